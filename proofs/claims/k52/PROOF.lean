import PyProof.Rows.All
import Wide.All
import OpenK.AllK
import Wide.FinOn
import HandS.ForMost
import HandS.IsInst
import HandS.Defaults
import HandS.Wide
import HandS.TupAny
import HandS.TupMul
import HandS.Style
import HandS.StrMore
import HandS.Replace
import HandS.Conv
import PySem.Challenge.RW_stringbench_k52_whole_squares_kept
set_option Elab.async false
set_option linter.all false
set_option maxRecDepth 100000
set_option maxHeartbeats 4000000
namespace M
open PySem L2
inductive D where
  | non | bl (b : Bool) | int (i : Int) | str (s : List Nat) | lst (xs : List D) | tup (xs : List D) | scr (xs : List D)
  | ins (nm : Str) (ns : List Str) (xs : List D) | ptr (v : V)
inductive SV where
  | d (x : D) | own (b : Bool) (xs : List D)
structure Fm where
  hp : Hp
  par : Nat → Option Addr
inductive RV where
  | d (x : D) | own (xs : List D) | bor (i : Nat)
abbrev Sl := List (Option SV)
abbrev Sg := List (Option V)
def At {α : Type} (l : List (Option α)) (i : Nat) (x : α) : Prop := l[i]? = (some (some x) : Option (Option α))
abbrev dAt (ρ : Sl) (i : Nat) (x : D) : Prop := At ρ i (SV.d x)
abbrev oAt (ρ : Sl) (i : Nat) (b : Bool) (x : List D) : Prop := At ρ i (SV.own b x)
abbrev vAt (σ : Sg) (i : Nat) (v : V) : Prop := At σ i v
theorem At.inj {α : Type} {l : List (Option α)} {i : Nat} {x y : α} (h : At l i x) (k : At l i y) : x = y := by
  unfold At at *; rw [h] at k; cases k; rfl
theorem At.lt {α : Type} {l : List (Option α)} {i : Nat} {x : α} (h : At l i x) : i < l.length := (List.getElem?_eq_some_iff.mp h).1
theorem At.of_set {α : Type} {l : List (Option α)} {i j : Nat} {x : Option α} {y : α} (h : At (l.set i x) j y) : (i = j ∧ x = some y ∧ i < l.length) ∨ (i ≠ j ∧ At l j y) := by
  unfold At at *
  by_cases hj : i = j
  · subst hj
    by_cases hl : i < l.length
    · rw [List.getElem?_set_self hl] at h
      exact .inl ⟨rfl, by cases h; rfl, hl⟩
    · rw [List.getElem?_eq_none (by simpa using hl)] at h; cases h
  · rw [List.getElem?_set_ne hj] at h
    exact .inr ⟨hj, h⟩
theorem At.set_self {α : Type} {l : List (Option α)} {i : Nat} {x : α} (h : i < l.length) : At (l.set i (some x)) i x := List.getElem?_set_self h
theorem At.set_ne {α : Type} {l : List (Option α)} {i j : Nat} {x : Option α} {y : α} (hj : i ≠ j) (h : At l j y) : At (l.set i x) j y := by
  unfold At at *; rw [List.getElem?_set_ne hj]; exact h
theorem At.set_same {α : Type} {l : List (Option α)} {i : Nat} {x : α} (h : At l i x) : l.set i (some x) = l := by
  refine List.ext_getElem? fun j => ?_
  by_cases hj : i = j
  · subst hj
    rw [List.getElem?_set_self h.lt]; exact h.symm
  · rw [List.getElem?_set_ne hj]
mutual
def RD (K : PySem.W.Frag) (H : Hp) : D → V → Prop
  | .non, v => v = .non
  | .bl b, v => v = .bl b
  | .int i, v => v = .int i
  | .str s, v => v = .str ⟨s.toArray⟩
  | .lst ds, v => ∃ a xs, v = .ref a ∧ H a = some (.lst xs) ∧ RDs K H ds xs
  | .scr ds, v => ∃ a xs, v = .ref a ∧ SqL K H a xs ∧ RDs K H ds xs
  | .tup ds, v => ∃ a xs, v = .ref a ∧ SqT K H a xs ∧ RDs K H ds xs
  | .ins _ ns ds, v => ∃ a C dx fs, v = .ref a ∧ H a = some (.ins C dx fs) ∧ Cls K C ∧ (∀ f ∈ ns, NoAttr K C f) ∧ fs.map (·.1) = ns ∧ RDs K H ds (fs.map (·.2))
  | .ptr u, v => v = u
def RDs (K : PySem.W.Frag) (H : Hp) : List D → List V → Prop
  | [], vs => vs = []
  | d :: ds, vs => ∃ x xs, vs = x :: xs ∧ RD K H d x ∧ RDs K H ds xs
end
theorem sameT {K : PySem.W.Frag} {H H' : Hp} {a : Addr} {xs : List V} (e : Same H H') (h : SqT K H a xs) : SqT K H' a xs := by
  rcases h with (h | ⟨o, h⟩) | h
  · exact .inl (.inl (e _ _ h))
  · exact .inl (.inr ⟨o, e _ _ h⟩)
  · exact .inr h
mutual
theorem RD.mono {K : PySem.W.Frag} {H H' : Hp} (e : Same H H') : ∀ (d : D) (v : V), RD K H d v → RD K H' d v
  | .non, v, h => h
  | .bl b, v, h => h
  | .int i, v, h => h
  | .str s, v, h => h
  | .lst ds, v, ⟨a, xs, e1, e2, e3⟩ => ⟨a, xs, e1, e _ _ e2, RDs.mono e ds xs e3⟩
  | .scr ds, v, ⟨a, xs, e1, e2, e3⟩ => ⟨a, xs, e1, e.seq e2, RDs.mono e ds xs e3⟩
  | .tup ds, v, ⟨a, xs, e1, e2, e3⟩ => ⟨a, xs, e1, sameT e e2, RDs.mono e ds xs e3⟩
  | .ins nm ns ds, v, ⟨a, C, dx, fs, e1, e2, c1, c2, e3, e4⟩ => ⟨a, C, dx, fs, e1, e _ _ e2, c1, c2, e3, RDs.mono e ds _ e4⟩
  | .ptr u, v, h => h
theorem RDs.mono {K : PySem.W.Frag} {H H' : Hp} (e : Same H H') : ∀ (ds : List D) (vs : List V), RDs K H ds vs → RDs K H' ds vs
  | [], vs, h => h
  | d :: ds, vs, ⟨x, xs, e1, e2, e3⟩ => ⟨x, xs, e1, RD.mono e d x e2, RDs.mono e ds xs e3⟩
end
theorem RDs.length {K : PySem.W.Frag} {H : Hp} : ∀ {ds : List D} {vs : List V}, RDs K H ds vs → vs.length = ds.length
  | [], vs, h => by cases h; rfl
  | d :: ds, vs, ⟨x, xs, e1, e2, e3⟩ => by subst e1; simp [RDs.length e3]
theorem RDs.append {K : PySem.W.Frag} {H : Hp} : ∀ {ds es : List D} {vs us : List V}, RDs K H ds vs → RDs K H es us → RDs K H (ds ++ es) (vs ++ us)
  | [], es, vs, us, h, k => by cases h; exact k
  | d :: ds, es, vs, us, ⟨x, xs, e1, e2, e3⟩, k => by subst e1; exact ⟨x, xs ++ us, rfl, e2, RDs.append e3 k⟩
theorem RDs.get {K : PySem.W.Frag} {H : Hp} : ∀ {ds : List D} {vs : List V} {i : Nat} {d : D}, RDs K H ds vs → ds[i]? = some d → ∃ v, vs[i]? = some v ∧ RD K H d v
  | [], vs, i, d, h, e => by simp at e
  | d0 :: ds, vs, 0, d, ⟨x, xs, e1, e2, e3⟩, e => by
    subst e1; simp at e; subst e; exact ⟨x, rfl, e2⟩
  | d0 :: ds, vs, i + 1, d, ⟨x, xs, e1, e2, e3⟩, e => by
    subst e1; simp at e
    obtain ⟨v, h1, h2⟩ := RDs.get e3 e
    exact ⟨v, by simpa using h1, h2⟩
theorem RDs.getV {K : PySem.W.Frag} {H : Hp} : ∀ {ds : List D} {vs : List V} {i : Nat} {v : V}, RDs K H ds vs → vs[i]? = some v → ∃ d, ds[i]? = some d ∧ RD K H d v
  | [], vs, i, d, h, e => by cases h; simp at e
  | d0 :: ds, vs, 0, v, ⟨x, xs, e1, e2, e3⟩, e => by
    subst e1; simp at e; subst e; exact ⟨d0, rfl, e2⟩
  | d0 :: ds, vs, i + 1, v, ⟨x, xs, e1, e2, e3⟩, e => by
    subst e1; simp at e
    obtain ⟨d, h1, h2⟩ := RDs.getV e3 e
    exact ⟨d, by simpa using h1, h2⟩
theorem RDs.take {K : PySem.W.Frag} {H : Hp} : ∀ {ds : List D} {vs : List V} (n : Nat), RDs K H ds vs → RDs K H (ds.take n) (vs.take n)
  | _, _, 0, _ => by simp [RDs]
  | [], vs, n + 1, h => by cases h; simp [RDs]
  | d :: ds, vs, n + 1, ⟨x, xs, e1, e2, e3⟩ => by subst e1; exact ⟨x, xs.take n, rfl, e2, RDs.take n e3⟩
theorem RDs.drop {K : PySem.W.Frag} {H : Hp} : ∀ {ds : List D} {vs : List V} (n : Nat), RDs K H ds vs → RDs K H (ds.drop n) (vs.drop n)
  | _, _, 0, h => by simpa using h
  | [], vs, n + 1, h => by cases h; simp [RDs]
  | d :: ds, vs, n + 1, ⟨x, xs, e1, e2, e3⟩ => by subst e1; simpa using RDs.drop n e3
theorem RDs.set {K : PySem.W.Frag} {H : Hp} {d : D} {x : V} (hx : RD K H d x) : ∀ {ds : List D} {vs : List V} (n : Nat), RDs K H ds vs → RDs K H (ds.set n d) (vs.set n x)
  | [], vs, n, h => by cases h; simp [RDs]
  | d0 :: ds, vs, 0, ⟨y, xs, e1, e2, e3⟩ => by subst e1; exact ⟨x, xs, rfl, hx, e3⟩
  | d0 :: ds, vs, n + 1, ⟨y, xs, e1, e2, e3⟩ => by subst e1; exact ⟨y, xs.set n x, rfl, e2, RDs.set hx n e3⟩
theorem RDs.one {K : PySem.W.Frag} {H : Hp} {d : D} {x : V} (h : RD K H d x) : RDs K H [d] [x] := ⟨x, [], rfl, h, rfl⟩
theorem RDs.eraseIdx {K : PySem.W.Frag} {H : Hp} : ∀ {ds : List D} {vs : List V} (n : Nat), RDs K H ds vs → RDs K H (ds.eraseIdx n) (vs.eraseIdx n)
  | [], vs, n, h => by cases h; simp [RDs]
  | d :: ds, vs, 0, ⟨x, xs, e1, e2, e3⟩ => by subst e1; simpa using e3
  | d :: ds, vs, n + 1, ⟨x, xs, e1, e2, e3⟩ => by subst e1; exact ⟨x, xs.eraseIdx n, rfl, e2, RDs.eraseIdx n e3⟩
structure Rep (K : PySem.W.Frag) (F : Fm) (G H : Hp) (σ : Sg) (ρ : Sl) : Prop where
  gh : Same G H
  fh : Same F.hp H
  fg : ∀ b o, F.hp b = some o → G b = none
  len : ρ.length = σ.length
  dat : ∀ i x, dAt ρ i x → ∃ v, vAt σ i v ∧ RD K G x v
  own : ∀ i b xs, oAt ρ i b xs → ∃ p vs, vAt σ i (.ref p) ∧ H p = some (.lst vs) ∧ G p = none ∧ F.hp p = none ∧ RDs K G xs vs ∧ (b = true → F.par i = some p)
  sep : ∀ i j p b c xs ys, i ≠ j → oAt ρ i b xs → oAt ρ j c ys → vAt σ i (.ref p) → ¬ vAt σ j (.ref p)
def RR (K : PySem.W.Frag) (F : Fm) (G H : Hp) (σ : Sg) (ρ : Sl) : RV → V → Prop
  | .d x, v => RD K G x v
  | .own xs, v => ∃ p vs, v = .ref p ∧ H p = some (.lst vs) ∧ G p = none ∧ F.hp p = none ∧ RDs K G xs vs ∧ ∀ i b ys, oAt ρ i b ys → ¬ vAt σ i (.ref p)
  | .bor i, v => vAt σ i v
theorem Same.updN {G : Hp} {p : Addr} {o : HO} (h : G p = none) : Same G (upd G p o) := fun b u e => by rw [upd_ne (ne_of_none e h)]; exact e
theorem Same.updB {G H : Hp} {p : Addr} {o : HO} (h : Same G H) : Same (upd G p o) (upd H p o) := fun b u e => by
  unfold upd at *
  split at e <;> rename_i hb
  · rw [if_pos hb]; exact e
  · rw [if_neg hb]; exact h _ _ e
section
variable {K : PySem.W.Frag} {F : Fm} {G H : Hp} {σ : Sg} {ρ : Sl}
theorem Rep.frzP (R : Rep K F G H σ ρ) {p : Addr} {vs : List V} (hp : H p = some (.lst vs)) (gp : G p = none) (fp : F.hp p = none) (ns : ∀ i b ys, oAt ρ i b ys → ¬ vAt σ i (.ref p)) :
    Rep K F (upd G p (.lst vs)) H σ ρ where
  gh := fun b o e => by
    unfold upd at e
    split at e <;> rename_i hb
    · cases e; rw [hb]; exact hp
    · exact R.gh b o e
  fh := R.fh
  fg := fun b o e => by
    have hb : b ≠ p := ne_of_none e fp
    rw [upd_ne hb]; exact R.fg b o e
  len := R.len
  dat := fun i x e => by
    obtain ⟨v, h1, h2⟩ := R.dat i x e
    exact ⟨v, h1, RD.mono (Same.updN gp) _ _ h2⟩
  own := fun i b xs e => by
    obtain ⟨q, us, h1, h2, h3, h4, h5, h6⟩ := R.own i b xs e
    have hq : q ≠ p := fun z => ns i b xs e (z ▸ h1)
    exact ⟨q, us, h1, h2, by rw [upd_ne hq]; exact h3, h4, RDs.mono (Same.updN gp) _ _ h5, h6⟩
  sep := R.sep
theorem RDs.frzP {xs : List D} {p : Addr} {vs : List V} (gp : G p = none) (h : RDs K G xs vs) : RD K (upd G p (.lst vs)) (.lst xs) (.ref p) :=
  ⟨p, vs, rfl, upd_same, RDs.mono (Same.updN gp) _ _ h⟩
theorem Rep.setD (R : Rep K F G H σ ρ) {i : Nat} {x : D} {v : V} (hv : RD K G x v) : Rep K F G H (σ.set i (some v)) (ρ.set i (some (.d x))) where
  gh := R.gh
  fh := R.fh
  fg := R.fg
  len := by simpa using R.len
  dat := fun j y e => by
    rcases e.of_set with ⟨rfl, e, hl⟩ | ⟨hj, e⟩
    · cases e
      exact ⟨v, At.set_self (by rw [← R.len]; exact hl), hv⟩
    · obtain ⟨u, h1, h2⟩ := R.dat j y e
      exact ⟨u, h1.set_ne hj, h2⟩
  own := fun j b y e => by
    rcases e.of_set with ⟨rfl, e, hl⟩ | ⟨hj, e⟩
    · cases e
    · obtain ⟨p, vs, h1, h2⟩ := R.own j b y e
      exact ⟨p, vs, h1.set_ne hj, h2⟩
  sep := fun j k p b c xs ys hjk e1 e2 e3 e4 => by
    rcases e1.of_set with ⟨rfl, e, hl⟩ | ⟨hj, e1⟩
    · cases e
    rcases e2.of_set with ⟨rfl, e, hl⟩ | ⟨hk, e2⟩
    · cases e
    rcases e3.of_set with ⟨z, e, hl⟩ | ⟨_, e3⟩
    · exact hj z
    rcases e4.of_set with ⟨z, e, hl⟩ | ⟨_, e4⟩
    · exact hk z
    exact R.sep j k p b c xs ys hjk e1 e2 e3 e4
theorem Rep.clear (R : Rep K F G H σ ρ) {i : Nat} {o : Option V} : Rep K F G H (σ.set i o) (ρ.set i none) where
  gh := R.gh
  fh := R.fh
  fg := R.fg
  len := by simpa using R.len
  dat := fun j y e => by
    rcases e.of_set with ⟨rfl, e, hl⟩ | ⟨hj, e⟩
    · cases e
    · obtain ⟨u, h1, h2⟩ := R.dat j y e
      exact ⟨u, h1.set_ne hj, h2⟩
  own := fun j b y e => by
    rcases e.of_set with ⟨rfl, e, hl⟩ | ⟨hj, e⟩
    · cases e
    · obtain ⟨p, vs, h1, h2⟩ := R.own j b y e
      exact ⟨p, vs, h1.set_ne hj, h2⟩
  sep := fun j k p b c xs ys hjk e1 e2 e3 e4 => by
    rcases e1.of_set with ⟨rfl, e, hl⟩ | ⟨hj, e1⟩
    · cases e
    rcases e2.of_set with ⟨rfl, e, hl⟩ | ⟨hk, e2⟩
    · cases e
    rcases e3.of_set with ⟨z, e, hl⟩ | ⟨_, e3⟩
    · exact hj z
    rcases e4.of_set with ⟨z, e, hl⟩ | ⟨_, e4⟩
    · exact hk z
    exact R.sep j k p b c xs ys hjk e1 e2 e3 e4
theorem Rep.setO (R : Rep K F G H σ ρ) {i : Nat} {xs : List D} {v : V} (hv : RR K F G H σ ρ (.own xs) v) : Rep K F G H (σ.set i (some v)) (ρ.set i (some (.own false xs))) := by
  obtain ⟨p, vs, rfl, hp, gp, fp, hr, hs⟩ := hv
  refine ⟨R.gh, R.fh, R.fg, by simpa using R.len, fun j y e => ?_, fun j b y e => ?_, fun j k q b c as bs hjk e1 e2 e3 e4 => ?_⟩
  · rcases e.of_set with ⟨rfl, e, hl⟩ | ⟨hj, e⟩
    · cases e
    · obtain ⟨u, h1, h2⟩ := R.dat j y e
      exact ⟨u, h1.set_ne hj, h2⟩
  · rcases e.of_set with ⟨rfl, e, hl⟩ | ⟨hj, e⟩
    · cases e
      exact ⟨p, vs, At.set_self (by rw [← R.len]; exact hl), hp, gp, fp, hr, fun z => nomatch z⟩
    · obtain ⟨p, vs, h1, h2⟩ := R.own j b y e
      exact ⟨p, vs, h1.set_ne hj, h2⟩
  · rcases e1.of_set with ⟨rfl, e, hl⟩ | ⟨hj, e1⟩
    · rcases e2.of_set with ⟨z, e', hl'⟩ | ⟨hk, e2⟩
      · exact hjk z
      rcases e3.of_set with ⟨_, e, hl⟩ | ⟨z, e3⟩
      · cases e
        rcases e4.of_set with ⟨z, _, _⟩ | ⟨_, e4⟩
        · exact hk z
        · exact hs k c bs e2 e4
      · exact z rfl
    · rcases e3.of_set with ⟨z, _, _⟩ | ⟨_, e3⟩
      · exact hj z
      rcases e2.of_set with ⟨rfl, e', hl'⟩ | ⟨hk, e2⟩
      · rcases e4.of_set with ⟨_, e, _⟩ | ⟨z, _⟩
        · cases e
          exact hs j b as e1 e3
        · exact z rfl
      · rcases e4.of_set with ⟨z, _, _⟩ | ⟨_, e4⟩
        · exact hk z
        · exact R.sep j k q b c as bs hjk e1 e2 e3 e4
theorem Rep.frzS (R : Rep K F G H σ ρ) {i : Nat} {b : Bool} {xs : List D} (e : oAt ρ i b xs) :
    ∃ p vs, vAt σ i (.ref p) ∧ Same G (upd G p (.lst vs)) ∧ Rep K F (upd G p (.lst vs)) H σ (ρ.set i (some (.d (.lst xs)))) ∧ RD K (upd G p (.lst vs)) (.lst xs) (.ref p) := by
  obtain ⟨p, vs, h1, h2, h3, h4, h5, h6⟩ := R.own i b xs e
  have R1 : Rep K F G H (σ.set i (some (.ref p))) (ρ.set i none) := R.clear
  rw [h1.set_same] at R1
  have R2 := R1.frzP h2 h3 h4 (fun j c ys q z => by
    rcases At.of_set q with ⟨rfl, e, _⟩ | ⟨hj, q⟩
    · cases e
    · exact R.sep i j p b c xs ys hj e q h1 z)
  have rd := RDs.frzP (p := p) h3 h5
  have R3 := R2.setD (i := i) rd
  rw [List.set_set, h1.set_same] at R3
  exact ⟨p, vs, h1, Same.updN h3, R3, rd⟩
theorem Rep.wr (R : Rep K F G H σ ρ) {i : Nat} {b : Bool} {xs ys : List D} {p : Addr} {us : List V} (e : oAt ρ i b xs) (hp : vAt σ i (.ref p)) (hy : RDs K G ys us) : Rep K F G (upd H p (.lst us)) σ (ρ.set i (some (.own b ys))) := by
  obtain ⟨q, vs, h1, h2, h3, h4, h5, h6⟩ := R.own i b xs e
  obtain rfl : q = p := by have := h1.inj hp; cases this; rfl
  refine ⟨fun b o z => ?_, fun b o z => ?_, R.fg, by simpa using R.len, fun j y z => ?_, fun j c y z => ?_, fun j k r c1 c2 as bs hjk e1 e2 e3 e4 => ?_⟩
  · rw [upd_ne (ne_of_none z h3)]; exact R.gh b o z
  · rw [upd_ne (ne_of_none z h4)]; exact R.fh b o z
  · rcases z.of_set with ⟨rfl, z, hl⟩ | ⟨hj, z⟩
    · cases z
    · exact R.dat j y z
  · rcases z.of_set with ⟨rfl, z, hl⟩ | ⟨hj, z⟩
    · cases z
      exact ⟨q, us, hp, upd_same, h3, h4, hy, h6⟩
    · obtain ⟨r, ws, g1, g2, g3⟩ := R.own j c y z
      have hr : r ≠ q := fun w => R.sep i j q b c xs y hj e z h1 (w ▸ g1)
      exact ⟨r, ws, g1, by rw [upd_ne hr]; exact g2, g3⟩
  · have f1 : ∃ c as', oAt ρ j c as' := by
      rcases e1.of_set with ⟨rfl, _, _⟩ | ⟨_, e1⟩
      · exact ⟨b, xs, e⟩
      · exact ⟨_, as, e1⟩
    have f2 : ∃ c as', oAt ρ k c as' := by
      rcases e2.of_set with ⟨rfl, _, _⟩ | ⟨_, e2⟩
      · exact ⟨b, xs, e⟩
      · exact ⟨_, bs, e2⟩
    obtain ⟨_, _, f1⟩ := f1
    obtain ⟨_, _, f2⟩ := f2
    exact R.sep j k r _ _ _ _ hjk f1 f2 e3 e4
theorem Rep.new (R : Rep K F G H σ ρ) {p : Addr} {o : HO} (hn : H p = none) : Rep K F G (upd H p o) σ ρ where
  gh := fun b u e => by rw [upd_ne (ne_of_none (R.gh b u e) hn)]; exact R.gh b u e
  fh := fun b u e => by rw [upd_ne (ne_of_none (R.fh b u e) hn)]; exact R.fh b u e
  fg := R.fg
  len := R.len
  dat := R.dat
  own := fun i b xs e => by
    obtain ⟨q, vs, h1, h2, h3⟩ := R.own i b xs e
    exact ⟨q, vs, h1, by rw [upd_ne (ne_of_none h2 hn)]; exact h2, h3⟩
  sep := R.sep
theorem Rep.gNone (R : Rep K F G H σ ρ) {p : Addr} (hn : H p = none) : G p = none := Same.free R.gh hn
theorem Rep.fNone (R : Rep K F G H σ ρ) {p : Addr} (hn : H p = none) : F.hp p = none := Same.free R.fh hn
theorem Rep.oNe (R : Rep K F G H σ ρ) {p : Addr} (hn : H p = none) : ∀ i b ys, oAt ρ i b ys → ¬ vAt σ i (.ref p) := fun i b ys e z => by
  obtain ⟨q, vs, h1, h2, _⟩ := R.own i b ys e
  have := h1.inj z
  cases this
  rw [hn] at h2; cases h2
theorem Rep.newG (R : Rep K F G H σ ρ) {p : Addr} {o : HO} (hn : H p = none) : Rep K F (upd G p o) (upd H p o) σ ρ where
  gh := Same.updB R.gh
  fh := (R.new hn).fh
  fg := fun b u e => by rw [upd_ne (ne_of_none (R.fh b u e) hn)]; exact R.fg b u e
  len := R.len
  dat := fun i x e => by
    obtain ⟨v, h1, h2⟩ := R.dat i x e
    exact ⟨v, h1, RD.mono (Same.updN (R.gNone hn)) _ _ h2⟩
  own := fun i b xs e => by
    obtain ⟨q, vs, h1, h2, h3, h4, h5, h6⟩ := R.own i b xs e
    have hq : q ≠ p := ne_of_none h2 hn
    exact ⟨q, vs, h1, by rw [upd_ne hq]; exact h2, by rw [upd_ne hq]; exact h3, h4, RDs.mono (Same.updN (R.gNone hn)) _ _ h5, h6⟩
  sep := R.sep
theorem Rep.lend (R : Rep K F G H σ ρ) {p : Addr} {o : HO} (hp : H p = some o) (gp : G p = none) (ns : ∀ i b ys, oAt ρ i b ys → ¬ vAt σ i (.ref p)) : Rep K ⟨upd F.hp p o, F.par⟩ G H σ ρ where
  gh := R.gh
  fh := fun b u e => by
    have e : upd F.hp p o b = some u := e
    unfold upd at e
    split at e <;> rename_i hb
    · cases e; rw [hb]; exact hp
    · exact R.fh b u e
  fg := fun b u e => by
    have e : upd F.hp p o b = some u := e
    unfold upd at e
    split at e <;> rename_i hb
    · rw [hb]; exact gp
    · exact R.fg b u e
  len := R.len
  dat := R.dat
  own := fun i b xs e => by
    obtain ⟨q, vs, h1, h2, h3, h4, h5⟩ := R.own i b xs e
    have hq : q ≠ p := fun z => ns i b xs e (z ▸ h1)
    exact ⟨q, vs, h1, h2, h3, by show upd F.hp p o q = none; rw [upd_ne hq]; exact h4, h5⟩
  sep := R.sep
theorem Rep.back {p : Addr} {o : HO} (R : Rep K ⟨upd F.hp p o, F.par⟩ G H σ ρ) (fp : F.hp p = none) : Rep K F G H σ ρ ∧ H p = some o ∧ G p = none ∧ ∀ i b ys, oAt ρ i b ys → ¬ vAt σ i (.ref p) := by
  refine ⟨⟨R.gh, fun b u e => R.fh b u (by show upd F.hp p o b = _; rw [upd_ne (ne_of_none e fp)]; exact e), fun b u e => R.fg b u (by show upd F.hp p o b = _; rw [upd_ne (ne_of_none e fp)]; exact e), R.len, R.dat, fun i b xs e => ?_, R.sep⟩, R.fh p o upd_same, R.fg p o upd_same, fun i b ys e z => ?_⟩
  · obtain ⟨q, vs, h1, h2, h3, h4, h5⟩ := R.own i b xs e
    refine ⟨q, vs, h1, h2, h3, ?_, h5⟩
    have h4 : upd F.hp p o q = none := h4
    by_cases hq : q = p
    · rw [hq]; exact fp
    · rw [upd_ne hq] at h4; exact h4
  · obtain ⟨q, vs, h1, h2, h3, h4, h5⟩ := R.own i b ys e
    have e : q = p := by cases h1.inj z; rfl
    have h4 : upd F.hp p o q = none := h4
    rw [e, upd_same] at h4; cases h4
end
end M
namespace M
open PySem L2
abbrev Ex := Sl → Option (RV × Sl)
abbrev Tx := Sl → Option (Bool × Sl)
abbrev Ax := Sl → Option (List RV × Sl)
inductive Fl where
  | nx | bk | ct | rt (r : RV)
abbrev Sx := Sl → Option (Fl × Sl)
def tE (K : PySem.W.Frag) (f : Ex) : TE := fun σ H Q => ∃ F G ρ r ρ', Rep K F G H σ ρ ∧ f ρ = some (r, ρ') ∧ ∀ v G' H', Same G G' → Rep K F G' H' σ ρ' → RR K F G' H' σ ρ' r v → Q v H'
def tT (K : PySem.W.Frag) (f : Tx) : TT := fun σ H Q => ∃ F G ρ b ρ', Rep K F G H σ ρ ∧ f ρ = some (b, ρ') ∧ ∀ G' H', Same G G' → Rep K F G' H' σ ρ' → Q b H'
def PEv (X : Cx) (e : Expr) (f : Ex) : Prop := PE X e (tE X.K f)
def PTv (X : Cx) (e : Expr) (f : Tx) : Prop := PT X e (tT X.K f)
def PWv (X : Cx) (e : Expr) (f : Tx) : Prop := PW X e (tT X.K f)
theorem PE.imp {X : Cx} {e : Expr} {t t' : TE} (h : PE X e t) (i : ∀ σ H Q, t' σ H Q → t σ H Q) : PE X e t' := ⟨fun pins s σ H Q I q => h.run pins s σ H Q I (i σ H Q q)⟩
theorem PT.imp {X : Cx} {e : Expr} {t t' : TT} (h : PT X e t) (i : ∀ σ H Q, t' σ H Q → t σ H Q) : PT X e t' := ⟨fun pins s σ H Q I q => h.run pins s σ H Q I (i σ H Q q)⟩
theorem PW.imp {X : Cx} {e : Expr} {t t' : TT} (h : PW X e t) (i : ∀ σ H Q, t' σ H Q → t σ H Q) : PW X e t' := ⟨fun w pins s σ H Q I q => h.run w pins s σ H Q I (i σ H Q q)⟩
theorem PS.imp {X : Cx} {e : Stmt} {t t' : TS} (h : PS X e t) (i : ∀ D σ H, t' D σ H → t D σ H) : PS X e t' := ⟨fun pins s σ H D I q => h.run pins s σ H D I (i D σ H q)⟩
theorem PSs.imp {X : Cx} {e : List Stmt} {t t' : TS} (h : PSs X e t) (i : ∀ D σ H, t' D σ H → t D σ H) : PSs X e t' := ⟨fun pins s σ H D I q => h.run pins s σ H D I (i D σ H q)⟩
theorem PA.imp {X : Cx} {e : List Expr} {t t' : TA} (h : PA X e t) (i : ∀ σ H Q, t' σ H Q → t σ H Q) : PA X e t' := ⟨fun pos pins s σ H Q I q => h.run pos pins s σ H Q I (i σ H Q q)⟩
def RV.nrm : RV → RV
  | .own xs => .d (.lst xs)
  | r => r
def RN (K : PySem.W.Frag) (G : Hp) (σ : Sg) : RV → V → Prop
  | .d x, v => RD K G x v
  | .own _, _ => False
  | .bor i, v => vAt σ i v
def pk (ρ : Sl) : RV → Option D
  | .d x => some x
  | .own _ => none
  | .bor i => match ρ[i]? with
    | some (some (.own _ xs)) => some (.lst xs)
    | _ => none
def RO (K : PySem.W.Frag) (G H : Hp) (d : D) (v : V) : Prop := RD K G d v ∨ ∃ ds p vs, d = .lst ds ∧ v = .ref p ∧ H p = some (.lst vs) ∧ RDs K G ds vs
def ROs (K : PySem.W.Frag) (G H : Hp) : List D → List V → Prop
  | [], vs => vs = []
  | d :: ds, vs => ∃ x xs, vs = x :: xs ∧ RO K G H d x ∧ ROs K G H ds xs
def RNs (K : PySem.W.Frag) (G : Hp) (σ : Sg) : List RV → List V → Prop
  | [], vs => vs = []
  | d :: ds, vs => ∃ x xs, vs = x :: xs ∧ RN K G σ d x ∧ RNs K G σ ds xs
def pks (ρ : Sl) : List RV → Option (List D)
  | [] => some []
  | r :: rs => match pk ρ r, pks ρ rs with
    | some x, some xs => some (x :: xs)
    | _, _ => none
section
variable {K : PySem.W.Frag} {F : Fm} {G G' H H' : Hp} {σ : Sg} {ρ ρ' : Sl}
theorem nrm_step (R : Rep K F G H σ ρ) {r : RV} {v : V} (h : RR K F G H σ ρ r v) : ∃ G', Same G G' ∧ Rep K F G' H σ ρ ∧ RN K G' σ r.nrm v := by
  cases r with
  | d x => exact ⟨G, Same.refl G, R, h⟩
  | own xs =>
    obtain ⟨p, vs, rfl, hp, gp, fp, hr, hs⟩ := h
    exact ⟨_, Same.updN gp, R.frzP hp gp fp hs, RDs.frzP gp hr⟩
  | bor i => exact ⟨G, Same.refl G, R, h⟩
theorem RN.mono (e : Same G G') {r : RV} {v : V} (h : RN K G σ r v) : RN K G' σ r v := by
  cases r with
  | d x => exact RD.mono e _ _ h
  | own xs => exact h
  | bor i => exact h
theorem RNs.mono (e : Same G G') : ∀ {rs : List RV} {vs : List V}, RNs K G σ rs vs → RNs K G' σ rs vs
  | [], vs, h => h
  | r :: rs, vs, ⟨x, xs, e1, e2, e3⟩ => ⟨x, xs, e1, RN.mono e e2, RNs.mono e e3⟩
theorem pk_ro (R : Rep K F G H σ ρ) {r : RV} {v : V} {d : D} (h : RN K G σ r v) (e : pk ρ r = some d) : RO K G H d v := by
  cases r with
  | d x => cases e; exact .inl h
  | own xs => cases e
  | bor i =>
    dsimp only [pk] at e
    split at e
    · rename_i b xs q
      cases e
      obtain ⟨p, vs, h1, h2, h3, h4, h5, h6⟩ := R.own i b xs q
      have := h1.inj h
      cases this
      exact .inr ⟨xs, p, vs, rfl, rfl, h2, h5⟩
    · cases e
theorem pks_ros (R : Rep K F G H σ ρ) : ∀ {rs : List RV} {vs : List V} {ds : List D}, RNs K G σ rs vs → pks ρ rs = some ds → ROs K G H ds vs
  | [], vs, ds, h, e => by cases e; exact h
  | r :: rs, vs, ds, ⟨x, xs, e1, e2, e3⟩, e => by
    unfold pks at e
    split at e
    · rename_i y ys q1 q2
      cases e
      exact ⟨x, xs, e1, pk_ro R e2 q1, pks_ros R e3 q2⟩
    · cases e
theorem RO.rd (e : Same G H) {d : D} {v : V} (h : RO K G H d v) : RD K H d v := by
  rcases h with h | ⟨ds, p, vs, rfl, rfl, h1, h2⟩
  · exact RD.mono e _ _ h
  · exact ⟨p, vs, rfl, h1, RDs.mono e _ _ h2⟩
theorem RO.lst (e : Same G H) {ds : List D} {v : V} (h : RO K G H (.lst ds) v) : ∃ p vs, v = .ref p ∧ H p = some (.lst vs) ∧ RDs K G ds vs := by
  rcases h with ⟨p, vs, h1, h2, h3⟩ | ⟨ds', p, vs, h0, h1, h2, h3⟩
  · exact ⟨p, vs, h1, e _ _ h2, h3⟩
  · cases h0
    exact ⟨p, vs, h1, h2, h3⟩
theorem RO.scr (e : Same G H) {ds : List D} {v : V} (h : RO K G H (.scr ds) v) : ∃ p vs, v = .ref p ∧ SqL K H p vs ∧ RDs K G ds vs := by
  rcases h with ⟨p, vs, h1, h2, h3⟩ | ⟨ds', p, vs, h0, h1, h2, h3⟩
  · exact ⟨p, vs, h1, e.seq h2, h3⟩
  · cases h0
theorem RO.tup (e : Same G H) {ds : List D} {v : V} (h : RO K G H (.tup ds) v) : ∃ p vs, v = .ref p ∧ SqT K H p vs ∧ RDs K G ds vs := by
  rcases h with ⟨p, vs, h1, h2, h3⟩ | ⟨ds', p, vs, h0, h1, h2, h3⟩
  · exact ⟨p, vs, h1, sameT e h2, h3⟩
  · cases h0
theorem RO.int {i : Int} {v : V} (h : RO K G H (.int i) v) : v = .int i := by
  rcases h with h | ⟨ds', p, vs, h0, h1, h2, h3⟩
  · exact h
  · cases h0
theorem RO.str {s : List Nat} {v : V} (h : RO K G H (.str s) v) : v = .str ⟨s.toArray⟩ := by
  rcases h with h | ⟨ds', p, vs, h0, h1, h2, h3⟩
  · exact h
  · cases h0
theorem RO.bl {b : Bool} {v : V} (h : RO K G H (.bl b) v) : v = .bl b := by
  rcases h with h | ⟨ds', p, vs, h0, h1, h2, h3⟩
  · exact h
  · cases h0
theorem RO.non {v : V} (h : RO K G H .non v) : v = .non := by
  rcases h with h | ⟨ds', p, vs, h0, h1, h2, h3⟩
  · exact h
  · cases h0
end
inductive RZ (K : PySem.W.Frag) (G H : Hp) : RV → V → Hp → Prop
  | same {d v} : RD K G d v → RZ K G H (.d d) v H
  | tup {p vs ds} : H p = none → RDs K G ds vs → RZ K G H (.d (.tup ds)) (.ref p) (upd H p (.tup vs))
  | lst {p vs ds} : H p = none → RDs K G ds vs → RZ K G H (.own ds) (.ref p) (upd H p (.lst vs))
theorem rz_done {K : PySem.W.Frag} {F : Fm} {G H H' : Hp} {σ : Sg} {ρ : Sl} {z : RV} {v : V} (R : Rep K F G H σ ρ) (h : RZ K G H z v H') : ∃ G', Same G G' ∧ Rep K F G' H' σ ρ ∧ RR K F G' H' σ ρ z v := by
  cases h with
  | same h => exact ⟨G, Same.refl G, R, h⟩
  | tup hn hr => exact ⟨_, Same.updN (R.gNone hn), R.newG hn, ⟨_, _, rfl, SqT.of upd_same, RDs.mono (Same.updN (R.gNone hn)) _ _ hr⟩⟩
  | lst hn hr => exact ⟨G, Same.refl G, R.new hn, ⟨_, _, rfl, upd_same, R.gNone hn, R.fNone hn, hr, R.oNe hn⟩⟩
def bC (d : D) : Ex := fun ρ => some (.d d, ρ)
def bV (i : Nat) : Ex := fun ρ => match ρ[i]? with
  | some (some (.d x)) => some (.d x, ρ)
  | some (some (.own _ _)) => some (.bor i, ρ)
  | _ => none
def bOp (g : D → D → Option RV) (fa fb : Ex) : Ex := fun ρ => match fa ρ with
  | none => none
  | some (ra, ρ1) => match fb ρ1 with
    | none => none
    | some (rb, ρ2) => match pk ρ2 ra.nrm, pk ρ2 rb.nrm with
      | some x, some y => (g x y).map fun z => (z, ρ2)
      | _, _ => none
def bUn (g : D → Option RV) (fa : Ex) : Ex := fun ρ => match fa ρ with
  | none => none
  | some (ra, ρ1) => match pk ρ1 ra.nrm with
    | some x => (g x).map fun z => (z, ρ1)
    | none => none
def aNil : Ax := fun ρ => some ([], ρ)
def aCons (f : Ex) (g : Ax) : Ax := fun ρ => match f ρ with
  | none => none
  | some (r, ρ1) => match g ρ1 with
    | none => none
    | some (rs, ρ2) => some (r.nrm :: rs, ρ2)
def bFn (g : List D → Option RV) (fs : Ax) : Ex := fun ρ => match fs ρ with
  | none => none
  | some (rs, ρ1) => match pks ρ1 rs with
    | some ds => (g ds).map fun z => (z, ρ1)
    | none => none
def frz (r : RV) (ρ : Sl) : Option (D × Sl) := match r with
  | .d x => some (x, ρ)
  | .own xs => some (.lst xs, ρ)
  | .bor i => match ρ[i]? with
    | some (some (.own false xs)) => some (.lst xs, ρ.set i (some (.d (.lst xs))))
    | _ => none
def bFz (f : Ex) : Ex := fun ρ => match f ρ with
  | none => none
  | some (r, ρ1) => (frz r ρ1).map fun q => (.d q.1, q.2)
def bIf (c : Tx) (fa fb : Ex) : Ex := fun ρ => match c ρ with
  | none => none
  | some (b, ρ1) => if b then fa ρ1 else fb ρ1
def OpD (K : PySem.W.Frag) (r : R2) (g : D → D → Option RV) : Prop := ∀ (G H : Hp) (x y : V) (dx dy : D) (z : RV), Same G H → RO K G H dx x → RO K G H dy y → g dx dy = some z → ∀ Q : VK, (∀ v H', RZ K G H z v H' → Q v H') → r x y H Q
def UnD (K : PySem.W.Frag) (r : V → Hp → VK → Prop) (g : D → Option RV) : Prop := ∀ (G H : Hp) (x : V) (dx : D) (z : RV), Same G H → RO K G H dx x → g dx = some z → ∀ Q : VK, (∀ v H', RZ K G H z v H' → Q v H') → r x H Q
def FnD (K : PySem.W.Frag) (r : List V → Hp → VK → Prop) (g : List D → Option RV) : Prop := ∀ (G H : Hp) (xs : List V) (ds : List D) (z : RV), Same G H → ROs K G H ds xs → g ds = some z → ∀ Q : VK, (∀ v H', RZ K G H z v H' → Q v H') → r xs H Q
def tAr (K : PySem.W.Frag) (f : Ax) : TA := fun σ H Q => ∃ F G ρ rs ρ', Rep K F G H σ ρ ∧ f ρ = some (rs, ρ') ∧ ∀ vs G' H', Same G G' → Rep K F G' H' σ ρ' → RNs K G' σ rs vs → Q vs H'
def PAv (X : Cx) (es : List Expr) (f : Ax) : Prop := PA X es (tAr X.K f)
section
variable {X : Cx} {a b e : Expr} {es : List Expr} {fa fb : Ex} {pos : Pos}
theorem read2 {K : PySem.W.Frag} {g : D → D → Option RV} {r : R2} (hg : OpD K r g) {σ : Sg} {H : Hp} {Q : VK} (h : tE K (bOp g fa fb) σ H Q) : tOp r (tE K fa) (tE K fb) σ H Q := by
  obtain ⟨F, G, ρ, z, ρ', R, e, k⟩ := h
  unfold bOp at e
  split at e
  · cases e
  rename_i ra ρ1 e1
  split at e
  · cases e
  rename_i rb ρ2 e2
  split at e
  rotate_left
  · cases e
  rename_i dx dy p1 p2
  obtain ⟨z', ez, eq⟩ := Option.map_eq_some_iff.mp e
  cases eq
  refine ⟨F, G, ρ, ra, ρ1, R, e1, fun x G1 H1 s1 R1 q1 => ?_⟩
  obtain ⟨G1', t1, R1', n1⟩ := nrm_step R1 q1
  refine ⟨F, G1', ρ1, rb, _, R1', e2, fun y G2 H2 s2 R2 q2 => ?_⟩
  obtain ⟨G2', t2, R2', n2⟩ := nrm_step R2 q2
  refine hg G2' H2 x y dx dy _ R2'.gh (pk_ro R2' (n1.mono (s2.trans t2)) p1) (pk_ro R2' n2 p2) ez Q fun v H' hz => ?_
  obtain ⟨G3, t3, R3, q3⟩ := rz_done R2' hz
  exact k v G3 H' ((((s1.trans t1).trans s2).trans t2).trans t3) R3 q3
theorem read1 {K : PySem.W.Frag} {g : D → Option RV} {r : V → Hp → VK → Prop} (hg : UnD K r g) {σ : Sg} {H : Hp} {Q : VK} (h : tE K (bUn g fa) σ H Q) : tUn r (tE K fa) σ H Q := by
  obtain ⟨F, G, ρ, z, ρ', R, e, k⟩ := h
  unfold bUn at e
  split at e
  · cases e
  rename_i ra ρ1 e1
  split at e
  rotate_left
  · cases e
  rename_i dx p1
  obtain ⟨z', ez, eq⟩ := Option.map_eq_some_iff.mp e
  cases eq
  refine ⟨F, G, ρ, ra, _, R, e1, fun x G1 H1 s1 R1 q1 => ?_⟩
  obtain ⟨G1', t1, R1', n1⟩ := nrm_step R1 q1
  refine hg G1' H1 x dx _ R1'.gh (pk_ro R1' n1 p1) ez Q fun v H' hz => ?_
  obtain ⟨G3, t3, R3, q3⟩ := rz_done R1' hz
  exact k v G3 H' ((s1.trans t1).trans t3) R3 q3
theorem readA {K : PySem.W.Frag} {g : List D → Option RV} {fs : Ax} {r : List V → Hp → VK → Prop} (hg : FnD K r g) {σ : Sg} {H : Hp} {Q : VK} (h : tE K (bFn g fs) σ H Q) : tCB r (tAr K fs) σ H Q := by
  obtain ⟨F, G, ρ, z, ρ', R, e, k⟩ := h
  unfold bFn at e
  split at e
  · cases e
  rename_i rs ρ1 e1
  split at e
  rotate_left
  · cases e
  rename_i ds p1
  obtain ⟨z', ez, eq⟩ := Option.map_eq_some_iff.mp e
  cases eq
  refine ⟨F, G, ρ, rs, _, R, e1, fun vs G1 H1 s1 R1 q1 => ?_⟩
  refine hg G1 H1 vs ds _ R1.gh (pks_ros R1 q1 p1) ez Q fun v H' hz => ?_
  obtain ⟨G3, t3, R3, q3⟩ := rz_done R1 hz
  exact k v G3 H' (s1.trans t3) R3 q3
theorem av_nil : PAv X [] aNil := PA.imp pa_nil fun σ H Q h => by
  obtain ⟨F, G, ρ, rs, ρ', R, e, k⟩ := h
  cases e
  exact k [] G H (Same.refl G) R rfl
theorem av_cons {f : Ax} (he : PEv X e fa) (hs : PAv X es f) (hst : starEach (e :: es) X.env = (false, eval e X.env) :: starEach es X.env := by rfl) : PAv X (e :: es) (aCons fa f) := PA.imp (pa_cons he hs hst) fun σ H Q h => by
  obtain ⟨F, G, ρ, rs, ρ', R, q, k⟩ := h
  unfold aCons at q
  split at q
  · cases q
  rename_i ra ρ1 e1
  split at q
  · cases q
  rename_i rb ρ2 e2
  cases q
  refine ⟨F, G, ρ, ra, ρ1, R, e1, fun x G1 H1 s1 R1 q1 => ?_⟩
  obtain ⟨G1', t1, R1', n1⟩ := nrm_step R1 q1
  refine ⟨F, G1', ρ1, rb, _, R1', e2, fun ys G2 H2 s2 R2 q2 => ?_⟩
  exact k _ G2 H2 ((s1.trans t1).trans s2) R2 ⟨x, ys, rfl, n1.mono s2, q2⟩
theorem ev_var {i : Nat} {x : Str} (h : PE X (.Name x pos) (tVar i)) : PEv X (.Name x pos) (bV i) := PE.imp h fun σ H Q h => by
  obtain ⟨F, G, ρ, r, ρ', R, q, k⟩ := h
  unfold bV at q
  split at q
  · rename_i x e
    cases q
    obtain ⟨v, h1, h2⟩ := R.dat i x e
    exact ⟨v, h1, k v G H (Same.refl G) R h2⟩
  · rename_i b xs e
    cases q
    obtain ⟨p, vs, h1, h2⟩ := R.own i b xs e
    exact ⟨.ref p, h1, k _ G H (Same.refl G) R h1⟩
  · cases q
theorem ev_const {d : D} {v : V} (h : PE X e (tC v)) (hd : ∀ G, RD X.K G d v) : PEv X e (bC d) := PE.imp h fun σ H Q h => by
  obtain ⟨F, G, ρ, r, ρ', R, q, k⟩ := h
  cases q
  exact k v G H (Same.refl G) R (hd G)
theorem ev_fz (h : PEv X e fa) : PEv X e (bFz fa) := PE.imp h fun σ H Q h => by
  obtain ⟨F, G, ρ, r, ρ', R, q, k⟩ := h
  unfold bFz at q
  split at q
  · cases q
  rename_i ra ρ1 e1
  obtain ⟨⟨d, ρ2⟩, ez, eq⟩ := Option.map_eq_some_iff.mp q
  cases eq
  refine ⟨F, G, ρ, ra, ρ1, R, e1, fun x G1 H1 s1 R1 q1 => ?_⟩
  cases ra with
  | d y => cases ez; exact k x G1 H1 s1 R1 q1
  | own xs =>
    cases ez
    obtain ⟨p, vs, rfl, hp, gp, fp, hr, hs⟩ := q1
    exact k _ _ H1 (s1.trans (Same.updN gp)) (R1.frzP hp gp fp hs) (RDs.frzP gp hr)
  | bor i =>
    unfold frz at ez
    dsimp only at ez
    split at ez
    · rename_i xs e
      cases ez
      obtain ⟨p, vs, h1, h2, h3, h4⟩ := R1.frzS e
      have q1' : vAt σ i x := q1
      have := h1.inj q1'
      cases this
      exact k _ _ H1 (s1.trans h2) h3 h4
    · cases ez
theorem ev_op {op : Operator} {r : R2} {g : D → D → Option RV} (ho : OpR X (binaryOp op) r) (hg : OpD X.K r g) (ha : PEv X a fa) (hb : PEv X b fb) : PEv X (.BinOp a op b pos) (bOp g fa fb) :=
  PE.imp (pe_op ho ha hb) fun _ _ _ h => read2 hg h
theorem ev_un {op : UnaryOp} {r : V → Hp → VK → Prop} {g : D → Option RV} (ho : UnR X (unaryOp op) r) (hg : UnD X.K r g) (ha : PEv X a fa) : PEv X (.UnaryOp op a pos) (bUn g fa) :=
  PE.imp (pe_un ho ha) fun _ _ _ h => read1 hg h
theorem ev_cmp {op : CmpOp} {r : R2} {g : D → D → Option RV} (ho : OpR X (compareOp op) r) (hg : OpD X.K r g) (hm : behindInMarks op b = false) (ha : PEv X a fa) (hb : PEv X b fb) : PEv X (.Compare a [op] [b] pos) (bOp g fa fb) :=
  PE.imp (pe_cmpR ho ha hb hm) fun _ _ _ h => read2 hg h
theorem ev_ix {r : R2} {g : D → D → Option RV} (ho : IxR X r) (hg : OpD X.K r g) (hs : PlainIx b) (ha : PEv X a fa) (hb : PEv X b fb) : PEv X (.Subscript a b pos) (bOp g fa fb) :=
  PE.imp (pe_ix ho ha hb hs) fun _ _ _ h => read2 hg h
theorem OpD.or {K : PySem.W.Frag} {r r' : R2} {g g' : D → D → Option RV} (h : OpD K r g) (h' : OpD K r' g') : OpD K (fun x y H Q => r x y H Q ∨ r' x y H Q) (fun x y => match g x y with | some z => some z | none => g' x y) := by
  intro G H x y dx dy z s hx hy e Q k
  dsimp only at e
  split at e
  · rename_i w q
    cases e
    exact .inl (h G H x y dx dy z s hx hy q Q k)
  · exact .inr (h' G H x y dx dy z s hx hy e Q k)
theorem FnD.or {K : PySem.W.Frag} {r r' : List V → Hp → VK → Prop} {g g' : List D → Option RV} (h : FnD K r g) (h' : FnD K r' g') : FnD K (fun x H Q => r x H Q ∨ r' x H Q) (fun x => match g x with | some z => some z | none => g' x) := by
  intro G H x dx z s hx e Q k
  dsimp only at e
  split at e
  · rename_i w q
    cases e
    exact .inl (h G H x dx z s hx q Q k)
  · exact .inr (h' G H x dx z s hx e Q k)
end
end M
namespace M
open PySem L2
def bT (f : Ex) : Tx := fun ρ => match f ρ with
  | some (.d (.bl b), ρ1) => some (b, ρ1)
  | _ => none
def bAnd (f g : Tx) : Tx := fun ρ => match f ρ with
  | none => none
  | some (b, ρ1) => if b then g ρ1 else some (false, ρ1)
def bOr (f g : Tx) : Tx := fun ρ => match f ρ with
  | none => none
  | some (b, ρ1) => if b then some (true, ρ1) else g ρ1
def bNot (f : Tx) : Tx := fun ρ => match f ρ with
  | none => none
  | some (b, ρ1) => some (!b, ρ1)
def bOfT (f : Tx) : Ex := fun ρ => match f ρ with
  | none => none
  | some (b, ρ1) => some (.d (.bl b), ρ1)
section
variable {X : Cx} {a b e : Expr} {es : List Expr} {fa fb : Ex} {ta tb : Tx} {pos : Pos}
theorem readT {K : PySem.W.Frag} {σ : Sg} {H : Hp} {Q : Bool → Hp → Prop} (h : tT K (bT fa) σ H Q) : tE K fa σ H fun x H1 => ∃ c, x = .bl c ∧ Q c H1 := by
  obtain ⟨F, G, ρ, b, ρ', R, q, k⟩ := h
  unfold bT at q
  split at q
  · rename_i b' ρ1 e
    cases q
    exact ⟨F, G, ρ, _, _, R, e, fun v G' H' s R' r => ⟨b, r, k G' H' s R'⟩⟩
  · cases q
theorem tv_val (h : PEv X e fa) (he : ∀ whole, isTrue e X.env whole = (do let v ← whole; standAt e.pos; holding [v] (truthy v)) := by intro _; rfl) : PTv X e (bT fa) :=
  PT.imp (pt_val h he) fun σ H Q h => readT h
theorem tv_cmp {op : CmpOp} {r : R2} {g : D → D → Option RV} (ho : OpR X (compareOp op) r) (hg : OpD X.K r g) (hm : behindInMarks op b = false) (ha : PEv X a fa) (hb : PEv X b fb) : PTv X (.Compare a [op] [b] pos) (bT (bOp g fa fb)) := by
  refine PT.imp (pt_cmpR ho ha hb hm) fun σ H Q h => ?_
  exact read2 hg (Q := fun x H1 => ∃ c, x = .bl c ∧ Q c H1) (readT h)
theorem wv_one_and (h : PTv X e ta) : PWv X (.BoolOp .And [e] pos) ta := pw_and1 h
theorem wv_one_or (h : PTv X e ta) : PWv X (.BoolOp .Or [e] pos) ta := pw_or1 h
theorem wv_and {rest : List Expr} (h : PTv X a ta) (k : PWv X (.BoolOp .And (b :: rest) pos) tb) : PWv X (.BoolOp .And (a :: b :: rest) pos) (bAnd ta tb) := by
  refine PW.imp (pw_and h k) fun σ H Q h => ?_
  obtain ⟨F, G, ρ, c, ρ', R, q, k⟩ := h
  unfold bAnd at q
  split at q
  · cases q
  rename_i c1 ρ1 e1
  refine ⟨F, G, ρ, c1, ρ1, R, e1, fun G1 H1 s1 R1 => ?_⟩
  cases c1 with
  | true => exact iteT ⟨F, G1, ρ1, c, ρ', R1, q, fun G2 H2 s2 R2 => k G2 H2 (s1.trans s2) R2⟩
  | false => cases q; exact iteF (k G1 H1 s1 R1)
theorem wv_or {rest : List Expr} (h : PTv X a ta) (k : PWv X (.BoolOp .Or (b :: rest) pos) tb) : PWv X (.BoolOp .Or (a :: b :: rest) pos) (bOr ta tb) := by
  refine PW.imp (pw_or h k) fun σ H Q h => ?_
  obtain ⟨F, G, ρ, c, ρ', R, q, k⟩ := h
  unfold bOr at q
  split at q
  · cases q
  rename_i c1 ρ1 e1
  refine ⟨F, G, ρ, c1, ρ1, R, e1, fun G1 H1 s1 R1 => ?_⟩
  cases c1 with
  | true => cases q; exact iteT (k G1 H1 s1 R1)
  | false => exact iteF ⟨F, G1, ρ1, c, ρ', R1, q, fun G2 H2 s2 R2 => k G2 H2 (s1.trans s2) R2⟩
theorem tv_w (h : PWv X e ta) : PTv X e ta := PW.pt h
theorem tv_not (h : PTv X a ta) : PTv X (.UnaryOp .Not a pos) (bNot ta) := by
  refine PT.imp (pt_not h) fun σ H Q h => ?_
  obtain ⟨F, G, ρ, c, ρ', R, q, k⟩ := h
  unfold bNot at q
  split at q
  · cases q
  rename_i c1 ρ1 e1
  cases q
  exact ⟨F, G, ρ, c1, _, R, e1, fun G1 H1 s1 R1 => k G1 H1 s1 R1⟩
theorem ev_ifE (hc : PTv X e ta) (ha : PEv X a fa) (hb : PEv X b fb) : PEv X (.IfExp e a b pos) (bIf ta fa fb) := by
  refine PE.imp (pe_ifExp hc ha hb) fun σ H Q h => ?_
  obtain ⟨F, G, ρ, r, ρ', R, q, k⟩ := h
  unfold bIf at q
  split at q
  · cases q
  rename_i c1 ρ1 e1
  refine ⟨F, G, ρ, c1, ρ1, R, e1, fun G1 H1 s1 R1 => ?_⟩
  cases c1 with
  | true => exact iteT ⟨F, G1, ρ1, r, ρ', R1, q, fun v G2 H2 s2 R2 => k v G2 H2 (s1.trans s2) R2⟩
  | false => exact iteF ⟨F, G1, ρ1, r, ρ', R1, q, fun v G2 H2 s2 R2 => k v G2 H2 (s1.trans s2) R2⟩
def bAndV (f g : Ex) : Ex := fun ρ => match f ρ with
  | some (.d (.bl b), ρ1) => if b then g ρ1 else some (.d (.bl false), ρ1)
  | _ => none
def bOrV (f g : Ex) : Ex := fun ρ => match f ρ with
  | some (.d (.bl b), ρ1) => if b then some (.d (.bl true), ρ1) else g ρ1
  | _ => none
def bNotV (f : Ex) : Ex := fun ρ => match f ρ with
  | some (.d (.bl b), ρ1) => some (.d (.bl (!b)), ρ1)
  | _ => none
theorem ev_one {op} (h : PEv X a fa) : PEv X (.BoolOp op [a] pos) fa := pe_one h
theorem ev_and {rest : List Expr} (ha : PEv X a fa) (hb : PEv X (.BoolOp .And (b :: rest) pos) fb) : PEv X (.BoolOp .And (a :: b :: rest) pos) (bAndV fa fb) := by
  refine PE.imp (pe_and ha hb) fun σ H Q h => ?_
  obtain ⟨F, G, ρ, r, ρ', R, q, k⟩ := h
  unfold bAndV at q
  split at q
  · rename_i c1 ρ1 e1
    refine ⟨F, G, ρ, _, ρ1, R, e1, fun v G1 H1 s1 R1 r1 => ⟨c1, r1, ?_⟩⟩
    cases c1 with
    | true => exact iteT ⟨F, G1, ρ1, r, ρ', R1, q, fun v G2 H2 s2 R2 => k v G2 H2 (s1.trans s2) R2⟩
    | false => cases q; exact iteF (k _ G1 H1 s1 R1 rfl)
  · cases q
theorem ev_or {rest : List Expr} (ha : PEv X a fa) (hb : PEv X (.BoolOp .Or (b :: rest) pos) fb) : PEv X (.BoolOp .Or (a :: b :: rest) pos) (bOrV fa fb) := by
  refine PE.imp (pe_or ha hb) fun σ H Q h => ?_
  obtain ⟨F, G, ρ, r, ρ', R, q, k⟩ := h
  unfold bOrV at q
  split at q
  · rename_i c1 ρ1 e1
    refine ⟨F, G, ρ, _, ρ1, R, e1, fun v G1 H1 s1 R1 r1 => ⟨c1, r1, ?_⟩⟩
    cases c1 with
    | true => cases q; exact iteT (k _ G1 H1 s1 R1 rfl)
    | false => exact iteF ⟨F, G1, ρ1, r, ρ', R1, q, fun v G2 H2 s2 R2 => k v G2 H2 (s1.trans s2) R2⟩
  · cases q
theorem ev_not (ha : PEv X a fa) : PEv X (.UnaryOp .Not a pos) (bNotV fa) := by
  refine PE.imp (pe_not ha) fun σ H Q h => ?_
  obtain ⟨F, G, ρ, r, ρ', R, q, k⟩ := h
  unfold bNotV at q
  split at q
  · rename_i c1 ρ1 e1
    cases q
    exact ⟨F, G, ρ, _, _, R, e1, fun v G1 H1 s1 R1 r1 => ⟨c1, r1, k _ G1 H1 s1 R1 rfl⟩⟩
  · cases q
end
def FQ (K : PySem.W.Frag) (F : Fm) (D : Ends) (fl : Fl) (G H : Hp) (σ : Sg) (ρ : Sl) : Prop := match fl with
  | .nx => D.nx σ H
  | .bk => D.bk σ H
  | .ct => D.ct σ H
  | .rt r => ∀ v, RR K F G H σ ρ r v → D.rt v H
def tS (K : PySem.W.Frag) (f : Sx) : TS := fun D σ H => ∃ F G ρ fl ρ', Rep K F G H σ ρ ∧ f ρ = some (fl, ρ') ∧ ∀ σ' G' H', Same G G' → Rep K F G' H' σ' ρ' → FQ K F D fl G' H' σ' ρ'
def PSv (X : Cx) (st : Stmt) (f : Sx) : Prop := PS X st (tS X.K f)
def PBv (X : Cx) (st : List Stmt) (f : Sx) : Prop := PSs X st (tS X.K f)
def sNx : Sx := fun ρ => some (.nx, ρ)
def sBk : Sx := fun ρ => some (.bk, ρ)
def sCt : Sx := fun ρ => some (.ct, ρ)
def sSeq (f g : Sx) : Sx := fun ρ => match f ρ with
  | some (.nx, ρ1) => g ρ1
  | o => o
def sIf (c : Tx) (f g : Sx) : Sx := fun ρ => match c ρ with
  | none => none
  | some (b, ρ1) => if b then f ρ1 else g ρ1
def sDrop (f : Ex) : Sx := fun ρ => match f ρ with
  | none => none
  | some (_, ρ1) => some (.nx, ρ1)
def sRet (f : Ex) : Sx := fun ρ => match f ρ with
  | none => none
  | some (r, ρ1) => some (.rt r, ρ1)
def sRetN : Sx := fun ρ => some (.rt (.d .non), ρ)
def putR (i : Nat) (r : RV) (ρ : Sl) : Option Sl := match r with
  | .d x => some (ρ.set i (some (.d x)))
  | .own xs => some (ρ.set i (some (.own false xs)))
  | .bor _ => none
def sSet (i : Nat) (f : Ex) : Sx := fun ρ => match f ρ with
  | none => none
  | some (r, ρ1) => (putR i r ρ1).map fun ρ2 => (.nx, ρ2)
def sPar (i j : Nat) (f g : Ex) : Sx := fun ρ => match f ρ with
  | none => none
  | some (r, ρ1) => match g ρ1 with
    | none => none
    | some (q, ρ2) => match putR i r ρ2 with
      | none => none
      | some ρ3 => (putR j q ρ3).map fun ρ4 => (.nx, ρ4)
section
variable {X : Cx} {e : Expr} {st : Stmt} {rest : List Stmt} {fa fb : Ex} {f g : Sx} {pos : Pos} {tc : Tx}
theorem sv_pass : PSv X (.Pass pos) sNx := PS.imp ps_pass fun D σ H h => by
  obtain ⟨F, G, ρ, fl, ρ', R, q, k⟩ := h
  cases q; exact k σ G H (Same.refl G) R
theorem sv_break : PSv X (.Break pos) sBk := PS.imp ps_break fun D σ H h => by
  obtain ⟨F, G, ρ, fl, ρ', R, q, k⟩ := h
  cases q; exact k σ G H (Same.refl G) R
theorem sv_cont : PSv X (.Continue pos) sCt := PS.imp ps_continue fun D σ H h => by
  obtain ⟨F, G, ρ, fl, ρ', R, q, k⟩ := h
  cases q; exact k σ G H (Same.refl G) R
theorem bv_nil : PBv X [] sNx := PSs.imp pss_nil fun D σ H h => by
  obtain ⟨F, G, ρ, fl, ρ', R, q, k⟩ := h
  cases q; exact k σ G H (Same.refl G) R
theorem FQ.nx {K : PySem.W.Frag} {F : Fm} {D : Ends} {n : St → Hp → Prop} {fl : Fl} {G H : Hp} {σ : Sg} {ρ : Sl} (hn : fl ≠ .nx) (h : FQ K F D fl G H σ ρ) : FQ K F { D with nx := n } fl G H σ ρ := by
  cases fl with
  | nx => exact absurd rfl hn
  | bk => exact h
  | ct => exact h
  | rt r => exact h
theorem bv_cons (h : PSv X st f) (k : PBv X rest g) : PBv X (st :: rest) (sSeq f g) := PSs.imp (pss_cons h k) fun D σ H h => by
  obtain ⟨F, G, ρ, fl, ρ', R, q, k⟩ := h
  unfold sSeq at q
  split at q
  · rename_i ρ1 e1
    refine ⟨F, G, ρ, .nx, ρ1, R, e1, fun σ1 G1 H1 s1 R1 => ?_⟩
    exact ⟨F, G1, ρ1, fl, ρ', R1, q, fun σ2 G2 H2 s2 R2 => k σ2 G2 H2 (s1.trans s2) R2⟩
  · rename_i o ho
    refine ⟨F, G, ρ, fl, ρ', R, q, fun σ1 G1 H1 s1 R1 => FQ.nx (fun z => ?_) (k σ1 G1 H1 s1 R1)⟩
    subst z
    exact ho _ q
theorem bv_one (h : PSv X st f) : PBv X [st] f := pss_one h
theorem sv_if {a b : List Stmt} (hc : PTv X e tc) (ha : PBv X a f) (hb : PBv X b g) : PSv X (.If e a b pos) (sIf tc f g) := PS.imp (ps_if hc ha hb) fun D σ H h => by
  obtain ⟨F, G, ρ, fl, ρ', R, q, k⟩ := h
  unfold sIf at q
  split at q
  · cases q
  rename_i c1 ρ1 e1
  refine ⟨F, G, ρ, c1, ρ1, R, e1, fun G1 H1 s1 R1 => ?_⟩
  cases c1 with
  | true => exact iteT ⟨F, G1, ρ1, fl, ρ', R1, q, fun σ2 G2 H2 s2 R2 => k σ2 G2 H2 (s1.trans s2) R2⟩
  | false => exact iteF ⟨F, G1, ρ1, fl, ρ', R1, q, fun σ2 G2 H2 s2 R2 => k σ2 G2 H2 (s1.trans s2) R2⟩
theorem sv_expr (h : PEv X e fa) (hs : swapsWith e none pos.line X.env = pure false := by rfl) : PSv X (.Expr e pos) (sDrop fa) := PS.imp (ps_expr h hs) fun D σ H h => by
  obtain ⟨F, G, ρ, fl, ρ', R, q, k⟩ := h
  unfold sDrop at q
  split at q
  · cases q
  rename_i r ρ1 e1
  cases q
  exact ⟨F, G, ρ, r, _, R, e1, fun v G1 H1 s1 R1 _ => k σ G1 H1 s1 R1⟩
theorem sv_ret (h : PEv X e fa) : PSv X (.Return (some e) pos) (sRet fa) := PS.imp (ps_ret h) fun D σ H h => by
  obtain ⟨F, G, ρ, fl, ρ', R, q, k⟩ := h
  unfold sRet at q
  split at q
  · cases q
  rename_i r ρ1 e1
  cases q
  exact ⟨F, G, ρ, r, _, R, e1, fun v G1 H1 s1 R1 q => k σ G1 H1 s1 R1 v q⟩
theorem sv_retN : PSv X (.Return none pos) sRetN := PS.imp ps_retN fun D σ H h => by
  obtain ⟨F, G, ρ, fl, ρ', R, q, k⟩ := h
  cases q
  exact k σ G H (Same.refl G) R .non rfl
theorem Rep.put {K : PySem.W.Frag} {F : Fm} {G H : Hp} {σ : Sg} {ρ ρ' : Sl} {i : Nat} {r : RV} {v : V} (R : Rep K F G H σ ρ) (h : RR K F G H σ ρ r v) (e : putR i r ρ = some ρ') : Rep K F G H (σ.set i (some v)) ρ' := by
  cases r with
  | d x => cases e; exact R.setD h
  | own xs => cases e; exact R.setO h
  | bor i => cases e
theorem sv_set {i : Nat} {x : Str} {pos' : Pos} (h : PEv X e fa) (hp : PS X (.Assign [.Name x pos'] e pos) (tAsg (tE X.K fa) (gName i))) : PSv X (.Assign [.Name x pos'] e pos) (sSet i fa) := PS.imp hp fun D σ H h => by
  obtain ⟨F, G, ρ, fl, ρ', R, q, k⟩ := h
  unfold sSet at q
  split at q
  · cases q
  rename_i r ρ1 e1
  obtain ⟨ρ2, e2, eq⟩ := Option.map_eq_some_iff.mp q
  cases eq
  exact ⟨F, G, ρ, r, _, R, e1, fun v G1 H1 s1 R1 q => k _ G1 H1 s1 (R1.put q e2)⟩
end
end M
namespace M
open PySem L2
theorem RZ.mono {K : PySem.W.Frag} {G G' H H' : Hp} {z : RV} {v : V} (s : Same G G') (h : RZ K G H z v H') : RZ K G' H z v H' := by
  cases h with
  | same h => exact .same (RD.mono s _ _ h)
  | tup hn hr => exact .tup hn (RDs.mono s _ _ hr)
  | lst hn hr => exact .lst hn (RDs.mono s _ _ hr)
theorem RR.lent {K : PySem.W.Frag} {F : Fm} {G H : Hp} {σ : Sg} {ρ : Sl} {p : Addr} {o : HO} {r : RV} {v : V} (fp : F.hp p = none) (h : RR K ⟨upd F.hp p o, F.par⟩ G H σ ρ r v) : RR K F G H σ ρ r v ∧ (∀ xs, r = .own xs → v ≠ .ref p) := by
  cases r with
  | d x => exact ⟨h, fun _ e => nomatch e⟩
  | bor i => exact ⟨h, fun _ e => nomatch e⟩
  | own xs =>
    obtain ⟨q, vs, rfl, hp, gp, hq, hr, hs⟩ := h
    have hq : upd F.hp p o q = none := hq
    by_cases e : q = p
    · rw [e, upd_same] at hq; cases hq
    · rw [upd_ne e] at hq
      exact ⟨⟨q, vs, rfl, hp, gp, hq, hr, hs⟩, fun _ _ z => e (by cases z; rfl)⟩
theorem RR.put {K : PySem.W.Frag} {F : Fm} {G H : Hp} {σ : Sg} {ρ ρ' : Sl} {i : Nat} {r q : RV} {v w : V} (e : putR i r ρ = some ρ') (hq : RR K F G H σ ρ q w) (hn : ∀ j, q ≠ .bor j) (hd : ∀ xs ys, r = .own xs → q = .own ys → v ≠ w) : RR K F G H (σ.set i (some v)) ρ' q w := by
  cases q with
  | d x => exact hq
  | bor j => exact absurd rfl (hn j)
  | own ys =>
    obtain ⟨p, vs, rfl, hp, gp, fp, hr, hs⟩ := hq
    refine ⟨p, vs, rfl, hp, gp, fp, hr, fun j b zs h1 h2 => ?_⟩
    cases r with
    | bor j => cases e
    | d x =>
      cases e
      rcases h1.of_set with ⟨_, z, _⟩ | ⟨hj, h1⟩
      · cases z
      rcases h2.of_set with ⟨z, _, _⟩ | ⟨_, h2⟩
      · exact hj z
      exact hs j b zs h1 h2
    | own xs =>
      cases e
      rcases h2.of_set with ⟨z1, z2, _⟩ | ⟨hj, h2⟩
      · cases z2
        exact hd xs ys rfl rfl rfl
      · rcases h1.of_set with ⟨z, _, _⟩ | ⟨_, h1⟩
        · exact hj z
        · exact hs j b zs h1 h2
section
variable {X : Cx}
theorem read_par {K : PySem.W.Frag} {i j : Nat} {fa fb : Ex} {D : Ends} {σ : Sg} {H : Hp} (h : tS K (sPar i j fa fb) D σ H) : tPar i j (tCons (tE K fa) (tCons (tE K fb) tNil)) D σ H := by
  obtain ⟨F, G, ρ, fl, ρ', R, q, k⟩ := h
  unfold sPar at q
  split at q
  · cases q
  rename_i r ρ1 e1
  split at q
  · cases q
  rename_i u ρ2 e2
  split at q
  · cases q
  rename_i ρ3 e3
  obtain ⟨ρ4, e4, eq⟩ := Option.map_eq_some_iff.mp q
  cases eq
  refine ⟨F, G, ρ, r, ρ1, R, e1, fun v G1 H1 s1 R1 q1 => ?_⟩
  have hu : ∀ j, u ≠ .bor j := fun j z => by subst z; cases e4
  cases r with
  | bor i => cases e3
  | d x =>
    refine ⟨F, G1, ρ1, u, ρ2, R1, e2, fun w G2 H2 s2 R2 q2 => ⟨v, w, rfl, ?_⟩⟩
    have q1' : RR K F G2 H2 σ ρ2 (.d x) v := RD.mono s2 _ _ q1
    exact k _ G2 H2 (s1.trans s2) ((R2.put q1' e3).put (RR.put e3 q2 hu fun _ _ z => nomatch z) e4)
  | own xs =>
    obtain ⟨p, vs, rfl, hp, gp, fp, hr, hs⟩ := q1
    refine ⟨⟨upd F.hp p (.lst vs), F.par⟩, G1, ρ1, u, ρ2, R1.lend hp gp hs, e2, fun w G2 H2 s2 R2 q2 => ⟨.ref p, w, rfl, ?_⟩⟩
    obtain ⟨R2', hp2, gp2, ns2⟩ := R2.back fp
    obtain ⟨q2', ne⟩ := q2.lent fp
    have q1' : RR K F G2 H2 σ ρ2 (.own xs) (.ref p) := ⟨p, vs, rfl, hp2, gp2, fp, RDs.mono s2 _ _ hr, ns2⟩
    exact k _ G2 H2 (s1.trans s2) ((R2'.put q1' e3).put (RR.put e3 q2' hu fun _ ys _ z z2 => ne ys z z2.symm) e4)
def dsOf : List RV → Option (List D)
  | [] => some []
  | .d x :: rs => (dsOf rs).map fun xs => x :: xs
  | _ => none
theorem ds_of {K : PySem.W.Frag} {G : Hp} {σ : Sg} : ∀ {rs : List RV} {vs : List V} {ds : List D}, RNs K G σ rs vs → dsOf rs = some ds → RDs K G ds vs
  | [], vs, ds, h, e => by cases e; exact h
  | .d x :: rs, vs, ds, ⟨v, us, e1, e2, e3⟩, e => by
    obtain ⟨xs, h1, h2⟩ := Option.map_eq_some_iff.mp e
    subst h2
    exact ⟨v, us, e1, e2, ds_of e3 h1⟩
  | .own _ :: _, _, _, _, e => by cases e
  | .bor _ :: _, _, _, _, e => by cases e
def bMu (i : Nat) (g : List D → List D → Option (List D × D)) (fs : Ax) : Ex := fun ρ => match ρ[i]? with
  | some (some (.own _ _)) => match fs ρ with
    | none => none
    | some (rs, ρ1) => match ρ1[i]? with
      | some (some (.own b xs)) => match dsOf rs with
        | none => none
        | some ds => match g xs ds with
          | none => none
          | some (ys, z) => some (.d z, ρ1.set i (some (.own b ys)))
      | _ => none
  | _ => none
def MuD (K : PySem.W.Frag) (r : V → List V → Hp → VK → Prop) (g : List D → List D → Option (List D × D)) : Prop :=
  ∀ (G H : Hp) (p : Addr) (vs us : List V) (xs ds ys : List D) (z : D), Same G H → H p = some (.lst vs) → G p = none → RDs K G xs vs → RDs K G ds us → g xs ds = some (ys, z) →
    ∀ Q : VK, (∀ ws v, RDs K G ys ws → RD K G z v → Q v (upd H p (.lst ws))) → r (.ref p) us H Q
theorem read_mu {K : PySem.W.Frag} {i : Nat} {g : List D → List D → Option (List D × D)} {fs : Ax} {r : V → List V → Hp → VK → Prop} (hg : MuD K r g) {σ : Sg} {H : Hp} {Q : VK} (h : tE K (bMu i g fs) σ H Q) :
    tBM K "list" r (tVar i) (tAr K fs) σ H Q := by
  obtain ⟨F, G, ρ, z, ρ', R, e, k⟩ := h
  unfold bMu at e
  split at e
  rotate_left
  · cases e
  rename_i b0 xs0 o0
  split at e
  · cases e
  rename_i rs ρ1 e1
  split at e
  rotate_left
  · cases e
  rename_i b xs o1
  split at e
  · cases e
  rename_i ds e2
  split at e
  · cases e
  rename_i ys z e3
  cases e
  obtain ⟨p, vs0, h1, h2, h3, h4, h5, h6⟩ := R.own i b0 xs0 o0
  refine ⟨.ref p, h1, .inl ⟨rfl, vs0, SqL.of h2⟩, F, G, ρ, rs, ρ1, R, e1, fun us G1 H1 s1 R1 q1 => ?_⟩
  obtain ⟨p', vs, g1, g2, g3, g4, g5, g6⟩ := R1.own i b xs o1
  have ep : p' = p := by cases g1.inj h1; rfl
  subst ep
  refine hg G1 H1 p' vs us xs ds ys z R1.gh g2 g3 g5 (ds_of q1 e2) e3 Q fun ws v hw hv => ?_
  exact k v G1 _ s1 (R1.wr o1 g1 hw) hv
def bMu0 (i : Nat) (g : List D → List D → Option (List D × D)) : Ex := bMu i g aNil
theorem read_mu0 {K : PySem.W.Frag} {i : Nat} {g : List D → List D → Option (List D × D)} {r : V → List V → Hp → VK → Prop} (hg : MuD K r g) {σ : Sg} {H : Hp} {Q : VK} (h : tE K (bMu0 i g) σ H Q) :
    tBM0 K "list" r (tVar i) σ H Q := by
  obtain ⟨F, G, ρ, z, ρ', R, e, k⟩ := h
  unfold bMu0 bMu at e
  split at e
  rotate_left
  · cases e
  rename_i b0 xs0 o0
  dsimp only [aNil] at e
  split at e
  rotate_left
  · cases e
  rename_i b xs o1
  dsimp only [dsOf] at e
  split at e
  · cases e
  rename_i ys z e3
  cases e
  obtain ⟨p, vs, h1, h2, h3, h4, h5, h6⟩ := R.own i b xs o1
  refine ⟨.ref p, h1, .inl ⟨rfl, vs, SqL.of h2⟩, ?_⟩
  refine hg G H p vs [] xs [] ys z R.gh h2 h3 h5 rfl e3 Q fun ws v hw hv => ?_
  exact k v G _ (Same.refl G) (R.wr o1 h1 hw) hv
def sPut (i : Nat) (fk fe : Ex) : Sx := fun ρ => match bFz fe ρ with
  | some (.d x, ρ1) => match ρ1[i]? with
    | some (some (.own _ _)) => match fk ρ1 with
      | some (.d (.int k), ρ2) => match ρ2[i]? with
        | some (some (.own b xs)) => match ixN xs.length k with
          | some j => some (.nx, ρ2.set i (some (.own b (xs.set j x))))
          | none => none
        | _ => none
      | _ => none
    | _ => none
  | _ => none
theorem read_put {K : PySem.W.Frag} {i : Nat} {fk fe : Ex} {D : Ends} {σ : Sg} {H : Hp} (h : tS K (sPut i fk fe) D σ H) : tAsg (tE K (bFz fe)) (gSub (tVar i) (tE K fk) rSetL) D σ H := by
  obtain ⟨F, G, ρ, fl, ρ', R, q, kk⟩ := h
  unfold sPut at q
  split at q
  rotate_left
  · cases q
  rename_i x ρ1 e1
  split at q
  rotate_left
  · cases q
  rename_i b0 xs0 o0
  split at q
  rotate_left
  · cases q
  rename_i k ρ2 e2
  split at q
  rotate_left
  · cases q
  rename_i b xs o1
  split at q
  rotate_left
  · cases q
  rename_i j e3
  cases q
  refine ⟨F, G, ρ, _, ρ1, R, e1, fun v G1 H1 s1 R1 q1 => ?_⟩
  obtain ⟨p, vs0, h1, h2, h3, h4, h5, h6⟩ := R1.own i b0 xs0 o0
  refine ⟨.ref p, h1, F, G1, ρ1, _, ρ2, R1, e2, fun w G2 H2 s2 R2 q2 => ?_⟩
  obtain ⟨p', vs, g1, g2, g3, g4, g5, g6⟩ := R2.own i b xs o1
  have ep : p' = p := by cases g1.inj h1; rfl
  subst ep
  have q1 : RD K G1 x v := q1
  cases (show w = .int k from q2)
  refine ⟨p', vs, k, j, rfl, rfl, g2, by rw [g5.length]; exact e3, ?_⟩
  exact kk σ G2 _ (s1.trans s2) (R2.wr o1 g1 (RDs.set (RD.mono s2 _ _ q1) j g5))
end
abbrev Bx := D → Sl → Option Sl
abbrev Ix := Sl → Option (List D × Sl)
def forGo (bind : Bx) (body : Sx) : List D → Sl → Option (Fl × Sl)
  | [], ρ => some (.nx, ρ)
  | x :: xs, ρ => match bind x ρ with
    | none => none
    | some ρ1 => match body ρ1 with
      | none => none
      | some (.nx, ρ2) => forGo bind body xs ρ2
      | some (.ct, ρ2) => forGo bind body xs ρ2
      | some (.bk, ρ2) => some (.nx, ρ2)
      | some (.rt r, ρ2) => some (.rt r, ρ2)
def sFor (it : Ix) (bind : Bx) (body : Sx) : Sx := fun ρ => match it ρ with
  | none => none
  | some (xs, ρ1) => forGo bind body xs ρ1
def whileN (c : Tx) (body : Sx) : Nat → Sl → Option (Fl × Sl)
  | 0, _ => none
  | n + 1, ρ => match c ρ with
    | none => none
    | some (b, ρ1) => if b then match body ρ1 with
      | none => none
      | some (.nx, ρ2) => whileN c body n ρ2
      | some (.ct, ρ2) => whileN c body n ρ2
      | some (.bk, ρ2) => some (.nx, ρ2)
      | some (.rt r, ρ2) => some (.rt r, ρ2)
      else some (.nx, ρ1)
def sWhile (n : Nat) (c : Tx) (body : Sx) : Sx := whileN c body n
def GD (K : PySem.W.Frag) (g : TG) (bind : Bx) (is : List Nat) : Prop := ∀ (F : Fm) (G H : Hp) (σ : Sg) (ρ ρ' : Sl) (x : D) (v : V) (Q : St → Hp → Prop), Rep K F G H σ ρ → RD K G x v → bind x ρ = some ρ' →
  (∀ σ', Rep K F G H σ' ρ' → (∀ vs, (∀ i ∈ is, i ∈ vs) → wipe σ' vs = wipe σ vs) → Q σ' H) → g v σ H Q
theorem wipe_get (σ : Sg) (vs : List Nat) (j : Nat) : (wipe σ vs)[j]? = if j ∈ vs ∧ j < σ.length then some none else σ[j]? := by
  induction vs with
  | nil => simp [wipe]
  | cons v vs ih =>
    unfold wipe
    by_cases hv : v = j
    · subst hv
      by_cases hl : v < σ.length
      · rw [List.getElem?_set_self (by rw [wipe_length]; exact hl)]; simp [hl]
      · rw [List.getElem?_eq_none (by rw [List.length_set, wipe_length]; omega)]
        rw [if_neg (fun z => hl z.2), List.getElem?_eq_none (by omega)]
    · rw [List.getElem?_set_ne hv, ih]
      simp only [List.mem_cons, Ne.symm hv, false_or]
theorem wipe_set {σ : Sg} {vs : List Nat} {i : Nat} {o : Option V} (h : i ∈ vs) : wipe (σ.set i o) vs = wipe σ vs := by
  refine List.ext_getElem? fun j => ?_
  rw [wipe_get, wipe_get, List.length_set]
  by_cases hj : j ∈ vs ∧ j < σ.length
  · rw [if_pos hj, if_pos hj]
  · rw [if_neg hj, if_neg hj]
    by_cases e : i = j
    · subst e
      have hl : ¬ i < σ.length := fun z => hj ⟨h, z⟩
      rw [List.getElem?_eq_none (by rw [List.length_set]; omega), List.getElem?_eq_none (by omega)]
    · rw [List.getElem?_set_ne e]
theorem wipe_wipe {σ : Sg} {vs us : List Nat} (h : ∀ i ∈ us, i ∈ vs) : wipe (wipe σ us) vs = wipe σ vs := by
  refine List.ext_getElem? fun j => ?_
  rw [wipe_get, wipe_get, wipe_get, wipe_length]
  by_cases hj : j ∈ vs ∧ j < σ.length
  · rw [if_pos hj, if_pos hj]
  · rw [if_neg hj, if_neg hj]
    by_cases e : j ∈ us ∧ j < σ.length
    · exact absurd ⟨h j e.1, e.2⟩ hj
    · rw [if_neg e]
def bName (i : Nat) : Bx := fun x ρ => some (ρ.set i (some (.d x)))
def bNames : List Nat → List D → Sl → Option Sl
  | [], [], ρ => some ρ
  | i :: is, x :: xs, ρ => bNames is xs (ρ.set i (some (.d x)))
  | _, _, _ => none
def bTup (is : List Nat) : Bx := fun x ρ => match x with
  | .tup xs => bNames is xs ρ
  | _ => none
def gNames : List Nat → TGs
  | [] => gNil
  | i :: is => gCons (gName i) (gNames is)
theorem gd_name {K : PySem.W.Frag} {i : Nat} : GD K (gName i) (bName i) [i] := fun F G H σ ρ ρ' x v Q R h e k => by
  cases e
  exact k _ (R.setD h) fun vs hv => wipe_set (hv i (List.mem_singleton_self i))
theorem gd_names {K : PySem.W.Frag} {F : Fm} {G H : Hp} : ∀ (is : List Nat) (σ : Sg) (ρ ρ' : Sl) (xs : List D) (vs : List V) (Q : St → Hp → Prop), Rep K F G H σ ρ → RDs K G xs vs → bNames is xs ρ = some ρ' → (∀ σ', Rep K F G H σ' ρ' → (∀ vs, (∀ i ∈ is, i ∈ vs) → wipe σ' vs = wipe σ vs) → Q σ' H) → gNames is vs σ H Q
  | [], σ, ρ, ρ', [], vs, Q, R, h, e, k => by cases e; exact ⟨h, k σ R fun _ _ => rfl⟩
  | [], σ, ρ, ρ', x :: xs, vs, Q, R, h, e, k => by cases e
  | i :: is, σ, ρ, ρ', [], vs, Q, R, h, e, k => by cases e
  | i :: is, σ, ρ, ρ', x :: xs, vs, Q, R, ⟨v, us, e1, e2, e3⟩, e, k =>
    ⟨v, us, e1, gd_names is (σ.set i (some v)) _ ρ' xs us Q (R.setD e2) e3 e fun σ' R' hw => k σ' R' fun ws hi => (hw ws fun j hj => hi j (List.mem_cons_of_mem _ hj)).trans (wipe_set (hi i List.mem_cons_self))⟩
theorem gd_tup {K : PySem.W.Frag} {n : Nat} {is : List Nat} (hn : is.length = n) : GD K (gTup K n (gNames is)) (bTup is) is := fun F G H σ ρ ρ' x v Q R h e k => by
  unfold bTup at e
  split at e
  · rename_i xs
    obtain ⟨a, vs, e1, e2, e3⟩ := h
    refine ⟨a, vs, e1, sameT R.gh e2, ?_, gd_names is σ ρ ρ' xs vs Q R e3 e k⟩
    rw [e3.length]
    have : ∀ (is : List Nat) (xs : List D) (ρ ρ' : Sl), bNames is xs ρ = some ρ' → xs.length = is.length := by
      intro is
      induction is with
      | nil => intro xs ρ ρ' e; cases xs with
        | nil => rfl
        | cons x xs => cases e
      | cons i is ih => intro xs ρ ρ' e; cases xs with
        | nil => cases e
        | cons x xs => simp [ih xs _ _ e]
    rw [this is xs ρ ρ' e, hn]
  · cases e
def JOk (K : PySem.W.Frag) (J : It) (G : Hp) (xs : List D) : Prop := ∀ (H : Hp) (i : Nat), Same G H → (i < xs.length → J.go i H) ∧ (xs.length ≤ i → J.stop i H) ∧ ∀ v H' x, J.yld i H v H' → xs[i]? = some x → RZ K G H (.d x) v H'
def ItD (K : PySem.W.Frag) (wi : TI) (it : Ix) : Prop := ∀ (σ : Sg) (H : Hp) (R : It → Hp → Prop),
  (∃ F G ρ xs ρ', Rep K F G H σ ρ ∧ it ρ = some (xs, ρ') ∧ ∀ J H1 G1, Same G G1 → Rep K F G1 H1 σ ρ' → JOk K J G1 xs → R J H1) → wi σ H R
def tIt (K : PySem.W.Frag) (it : Ix) : TI := fun σ H R => ∃ F G ρ xs ρ', Rep K F G H σ ρ ∧ it ρ = some (xs, ρ') ∧ ∀ J H1 G1, Same G G1 → Rep K F G1 H1 σ ρ' → JOk K J G1 xs → R J H1
def tG (K : PySem.W.Frag) (bind : Bx) (is : List Nat) : TG := fun v σ H Q => ∃ F G ρ x ρ', Rep K F G H σ ρ ∧ RD K G x v ∧ bind x ρ = some ρ' ∧ ∀ σ', Rep K F G H σ' ρ' → (∀ vs, (∀ i ∈ is, i ∈ vs) → wipe σ' vs = wipe σ vs) → Q σ' H
theorem itd_self {K : PySem.W.Frag} {it : Ix} : ItD K (tIt K it) it := fun σ H R h => h
theorem gd_self {K : PySem.W.Frag} {bind : Bx} {is : List Nat} : GD K (tG K bind is) bind is := fun F G H σ ρ ρ' x v Q R h e k => ⟨F, G, ρ, x, ρ', R, h, e, k⟩
def PIv (X : Cx) (tg iter : Expr) (it : Ix) : Prop := PI X tg iter (tIt X.K it)
def PGv (X : Cx) (tg : Expr) (bind : Bx) (is : List Nat) : Prop := PG X tg (tG X.K bind is)
theorem iv_of {X : Cx} {tg iter : Expr} {wi : TI} {it : Ix} (h : PI X tg iter wi) (d : ItD X.K wi it) : PIv X tg iter it := ⟨fun pins s σ H R I q => h.run pins s σ H R I (d σ H R q)⟩
theorem gv_of {X : Cx} {tg : Expr} {g : TG} {bind : Bx} {is : List Nat} (h : PG X tg g) (d : GD X.K g bind is) : PGv X tg bind is :=
  ⟨fun pins s σ H v u Q I r ⟨F, G, ρ, x, ρ', R, hx, e, k⟩ => h.run pins s σ H v u Q I r (d F G H σ ρ ρ' x v Q R hx e k)⟩
theorem drop_of {α : Type} {xs : List α} {i : Nat} (h : i < xs.length) : ∃ x, xs[i]? = some x ∧ xs.drop i = x :: xs.drop (i + 1) :=
  ⟨xs[i], by simp [h], List.drop_eq_getElem_cons h⟩
theorem read_for {K : PySem.W.Frag} {wi : TI} {g : TG} {it : Ix} {bind : Bx} {body : Sx} {is : List Nat} (hi : ItD K wi it) (hg : GD K g bind is) {D : Ends} {σ : Sg} {H : Hp} (h : tS K (sFor it bind body) D σ H) : tFor wi g (tS K body) D σ H := by
  obtain ⟨F, G, ρ, fl, ρ', R, q, k⟩ := h
  unfold sFor at q
  split at q
  · cases q
  rename_i xs ρ1 e1
  refine hi σ H _ ⟨F, G, ρ, xs, ρ1, R, e1, fun J H1 G1 s1 R1 hj => ?_⟩
  refine ⟨fun i m σ' H' => m = xs.length - i ∧ i ≤ xs.length ∧ ∃ G2 ρ2, Same G1 G2 ∧ Rep K F G2 H' σ' ρ2 ∧ forGo bind body (xs.drop i) ρ2 = some (fl, ρ'), ⟨xs.length, rfl, Nat.zero_le _, G1, ρ1, Same.refl _, R1, q⟩, ?_⟩
  rintro i m σ' H' ⟨rfl, hi, G2, ρ2, s2, R2, e2⟩
  obtain ⟨j1, j2, j3⟩ := hj H' i (s2.trans R2.gh)
  by_cases hlt : i < xs.length
  · refine .inr ⟨j1 hlt, _, fun σ3 H3 w => ⟨xs.length - (i + 1), by omega, w⟩, fun v H3 y => ?_⟩
    obtain ⟨x, hx, hd⟩ := drop_of hlt
    have z := (j3 v H3 x y hx).mono s2
    obtain ⟨G3, s3, R3, q3⟩ := rz_done R2 z
    rw [hd] at e2
    unfold forGo at e2
    split at e2
    · cases e2
    rename_i ρ3 e3
    refine hg F G3 H3 σ' ρ2 ρ3 x v _ R3 q3 e3 fun σ4 R4 _ => ?_
    split at e2
    · cases e2
    · rename_i ρ4 e4
      exact ⟨F, G3, ρ3, .nx, ρ4, R4, e4, fun σ5 G5 H5 s5 R5 => ⟨rfl, hlt, G5, ρ4, (s2.trans s3).trans s5, R5, e2⟩⟩
    · rename_i ρ4 e4
      exact ⟨F, G3, ρ3, .ct, ρ4, R4, e4, fun σ5 G5 H5 s5 R5 => ⟨rfl, hlt, G5, ρ4, (s2.trans s3).trans s5, R5, e2⟩⟩
    · rename_i ρ4 e4
      cases e2
      exact ⟨F, G3, ρ3, .bk, _, R4, e4, fun σ5 G5 H5 s5 R5 => k σ5 G5 H5 (((s1.trans s2).trans s3).trans s5) R5⟩
    · rename_i r ρ4 e4
      cases e2
      exact ⟨F, G3, ρ3, .rt r, _, R4, e4, fun σ5 G5 H5 s5 R5 => k σ5 G5 H5 (((s1.trans s2).trans s3).trans s5) R5⟩
  · refine .inl ⟨j2 (by omega), ?_⟩
    rw [List.drop_eq_nil_of_le (by omega)] at e2
    cases e2
    exact k σ' G2 H' (s1.trans s2) R2
theorem read_while {K : PySem.W.Frag} {n : Nat} {c : Tx} {body : Sx} {D : Ends} {σ : Sg} {H : Hp} (h : tS K (sWhile n c body) D σ H) : tWhile (tT K c) (tS K body) D σ H := by
  obtain ⟨F, G, ρ, fl, ρ', R, q, k⟩ := h
  unfold sWhile at q
  refine ⟨fun m σ' H' => ∃ G2 ρ2, Same G G2 ∧ Rep K F G2 H' σ' ρ2 ∧ whileN c body m ρ2 = some (fl, ρ'), ⟨n, G, ρ, Same.refl _, R, q⟩, ?_⟩
  rintro m σ' H' ⟨G2, ρ2, s2, R2, e2⟩
  cases m with
  | zero => cases e2
  | succ m =>
    unfold whileN at e2
    split at e2
    · cases e2
    rename_i b ρ3 e3
    refine ⟨F, G2, ρ2, b, ρ3, R2, e3, fun G3 H3 s3 R3 => ?_⟩
    cases b with
    | false =>
      cases e2
      exact iteF (k σ' G3 H3 (s2.trans s3) R3)
    | true =>
      refine iteT ⟨_, fun σ5 H5 w => ⟨m, Nat.lt_succ_self m, w⟩, ?_⟩
      rw [if_pos rfl] at e2
      split at e2
      · cases e2
      · rename_i ρ4 e4
        exact ⟨F, G3, ρ3, .nx, ρ4, R3, e4, fun σ5 G5 H5 s5 R5 => ⟨G5, ρ4, (s2.trans s3).trans s5, R5, e2⟩⟩
      · rename_i ρ4 e4
        exact ⟨F, G3, ρ3, .ct, ρ4, R3, e4, fun σ5 G5 H5 s5 R5 => ⟨G5, ρ4, (s2.trans s3).trans s5, R5, e2⟩⟩
      · rename_i ρ4 e4
        cases e2
        exact ⟨F, G3, ρ3, .bk, _, R3, e4, fun σ5 G5 H5 s5 R5 => k σ5 G5 H5 ((s2.trans s3).trans s5) R5⟩
      · rename_i r ρ4 e4
        cases e2
        exact ⟨F, G3, ρ3, .rt r, _, R3, e4, fun σ5 G5 H5 s5 R5 => k σ5 G5 H5 ((s2.trans s3).trans s5) R5⟩
section
variable {X : Cx} {e : Expr} {body : List Stmt} {fa : Ex} {f : Sx} {c : Tx} {pos : Pos}
theorem sv_for {tg iter : Expr} {it : Ix} {bind : Bx} {is : List Nat} (hp : PassesOwn (model X.prog X.w) X.A X.env X.xe) (hc : X.calm = true) (hi : PIv X tg iter it) (hg : PGv X tg bind is) (hb : PBv X body f)
    (hs : ∀ x, foldedSetIterable iter X.env x = pure x := by intro _; rfl) : PSv X (.For tg iter body [] pos) (sFor it bind f) := by
  exact PS.imp (ps_for hp hc hi hg hb hs) fun D σ H h => read_for itd_self gd_self h
theorem sv_while {n : Nat} (hp : PassesOwn (model X.prog X.w) X.A X.env X.xe) (hc : PTv X e c) (hb : PBv X body f) : PSv X (.While e body [] pos) (sWhile n c f) := PS.imp (ps_while hp hc hb) fun D σ H h => read_while h
def iRange1 (f : Ex) : Ix := fun ρ => match f ρ with
  | some (.d (.int j), ρ1) => if -(2 ^ 62) ≤ j ∧ j < 2 ^ 62 then some ((List.range j.toNat).map fun k : Nat => D.int (k : Int), ρ1) else none
  | _ => none
def iRange2 (f g : Ex) : Ix := fun ρ => match f ρ with
  | some (.d (.int i), ρ1) => match g ρ1 with
    | some (.d (.int j), ρ2) => if -(2 ^ 62) ≤ i ∧ i < 2 ^ 62 ∧ -(2 ^ 62) ≤ j ∧ j < 2 ^ 62 then some ((List.range (j - i).toNat).map fun k : Nat => D.int (i + (k : Int)), ρ2) else none
    | _ => none
  | _ => none
theorem jok_range {K : PySem.W.Frag} {lo : Int} {n : Nat} {G : Hp} : JOk K (Itr lo n) G ((List.range n).map fun k : Nat => D.int (lo + (k : Int))) := fun H i s => by
  refine ⟨fun h => by
    have h : i < n := by simpa using h
    exact h, fun h => by
    have h : n ≤ i := by simpa using h
    exact h, fun v H' x y e => ?_⟩
  obtain ⟨rfl, rfl⟩ := y
  simp only [List.getElem?_map] at e
  rw [List.getElem?_range (by
    by_cases h : i < n
    · exact h
    · rw [List.getElem?_eq_none (by simpa using h)] at e; cases e)] at e
  cases e
  exact .same rfl
theorem iv_range1 {p pos : Pos} {tg a : Expr} {f : Ex} (hg : Gl X "range") (hm : X.mg "range" = none) (h : PEv X a f) (hst : starEach [a] X.env = (false, eval a X.env) :: starEach [] X.env := by rfl) :
    PIv X tg (.Call (.Name "range" p) [a] [] pos) (iRange1 f) := by
  refine iv_of (pi_range1 hg hm (pa_cons h pa_nil hst) hst) fun σ H R h => ?_
  obtain ⟨F, G, ρ, xs, ρ', R0, e, k⟩ := h
  unfold iRange1 at e
  split at e
  · rename_i j ρ1 e1
    split at e
    · rename_i hb
      cases e
      refine ⟨F, G, ρ, _, _, R0, e1, fun v G1 H1 s1 R1 q1 => ⟨j, by cases (show v = .int j from q1); rfl, hb.1, hb.2, ?_⟩⟩
      refine k _ H1 G1 s1 R1 ?_
      have z := jok_range (K := X.K) (lo := 0) (n := j.toNat) (G := G1)
      simpa using z
    · cases e
  · cases e
theorem iv_range2 {p pos : Pos} {tg a b : Expr} {f g : Ex} (hg : Gl X "range") (hm : X.mg "range" = none) (h : PEv X a f) (h2 : PEv X b g) (hst : starEach [a, b] X.env = [(false, eval a X.env), (false, eval b X.env)] := by rfl) (hst2 : starEach [b] X.env = [(false, eval b X.env)] := by rfl) :
    PIv X tg (.Call (.Name "range" p) [a, b] [] pos) (iRange2 f g) := by
  refine iv_of (pi_range2 hg hm (pa_cons h (pa_cons h2 pa_nil hst2) (by rw [hst, hst2])) hst hst2) fun σ H R h => ?_
  obtain ⟨F, G, ρ, xs, ρ', R0, e, k⟩ := h
  unfold iRange2 at e
  split at e
  rotate_left
  · cases e
  rename_i i ρ1 e1
  split at e
  rotate_left
  · cases e
  rename_i j ρ2 e2
  split at e
  · rename_i hb
    cases e
    refine ⟨F, G, ρ, _, ρ1, R0, e1, fun v G1 H1 s1 R1 q1 => ⟨F, G1, ρ1, _, _, R1, e2, fun w G2 H2 s2 R2 q2 => ⟨i, j, by cases (show v = .int i from q1); cases (show w = .int j from q2); rfl, hb, ?_⟩⟩⟩
    exact k _ H2 G2 (s1.trans s2) R2 jok_range
  · cases e
def iLst (f : Ex) : Ix := fun ρ => match bFz f ρ with
  | some (.d (.lst xs), ρ1) => some (xs, ρ1)
  | _ => none
def iTpl (f : Ex) : Ix := fun ρ => match f ρ with
  | some (.d (.tup xs), ρ1) => some (xs, ρ1)
  | _ => none
def iTxt (f : Ex) : Ix := fun ρ => match f ρ with
  | some (.d (.str s), ρ1) => some (s.map fun c => D.str [c], ρ1)
  | _ => none
theorem rds_walk {K : PySem.W.Frag} {G : Hp} {xs : List D} {vs : List V} (h : RDs K G xs vs) {i : Nat} {v : V} {x : D} (h1 : vs[i]? = some v) (h2 : xs[i]? = some x) : RD K G x v := by
  obtain ⟨u, e1, e2⟩ := h.get h2
  rw [h1] at e1; cases e1; exact e2
theorem iv_list {tg a : Expr} {f : Ex} (h : PEv X a f) : PIv X tg a (iLst f) := by
  refine iv_of (pi_list (ev_fz h)) fun σ H R h => ?_
  obtain ⟨F, G, ρ, xs, ρ', R0, e, k⟩ := h
  unfold iLst at e
  split at e
  rotate_left
  · cases e
  rename_i ys ρ1 e1
  cases e
  refine ⟨F, G, ρ, _, _, R0, e1, fun v G1 H1 s1 R1 q1 => ?_⟩
  obtain ⟨p, vs, rfl, h2, h3⟩ := q1
  refine ⟨p, rfl, ⟨vs, SqL.of (R1.gh _ _ h2)⟩, k _ H1 G1 s1 R1 fun H2 i s2 => ?_⟩
  have hl : SqL X.K H2 p vs := SqL.of (s2 _ _ h2)
  refine ⟨fun hi => ⟨vs, vs[i]'(by rw [h3.length]; exact hi), hl, by simp⟩, fun hi => ⟨vs, hl, by rw [h3.length]; exact hi⟩, fun w H' x y ex => ?_⟩
  obtain ⟨rfl, hw⟩ := y
  exact .same (rds_walk h3 (hw vs hl) ex)
theorem iv_tup {tg a : Expr} {f : Ex} (h : PEv X a f) : PIv X tg a (iTpl f) := by
  refine iv_of (pi_tup h) fun σ H R h => ?_
  obtain ⟨F, G, ρ, xs, ρ', R0, e, k⟩ := h
  unfold iTpl at e
  split at e
  rotate_left
  · cases e
  rename_i ys ρ1 e1
  cases e
  refine ⟨F, G, ρ, _, _, R0, e1, fun v G1 H1 s1 R1 q1 => ?_⟩
  obtain ⟨p, vs, rfl, h2, h3⟩ := q1
  refine ⟨p, rfl, ⟨vs, sameT R1.gh h2⟩, k _ H1 G1 s1 R1 fun H2 i s2 => ?_⟩
  have hl : SqT X.K H2 p vs := sameT s2 h2
  refine ⟨fun hi => ⟨vs, vs[i]'(by rw [h3.length]; exact hi), hl, by simp⟩, fun hi => ⟨vs, hl, by rw [h3.length]; exact hi⟩, fun w H' x y ex => ?_⟩
  obtain ⟨rfl, hw⟩ := y
  exact .same (rds_walk h3 (hw vs hl) ex)
theorem iv_txt {tg a : Expr} {f : Ex} (h : PEv X a f) : PIv X tg a (iTxt f) := by
  refine iv_of (pi_str h) fun σ H R h => ?_
  obtain ⟨F, G, ρ, xs, ρ', R0, e, k⟩ := h
  unfold iTxt at e
  split at e
  rotate_left
  · cases e
  rename_i s ρ1 e1
  cases e
  refine ⟨F, G, ρ, _, _, R0, e1, fun v G1 H1 s1 R1 q1 => ⟨⟨s.toArray⟩, q1, k _ H1 G1 s1 R1 fun H2 i s2 => ?_⟩⟩
  refine ⟨fun hi => by
    have hi : i < s.length := by simpa using hi
    exact (by simpa using hi : i < s.toArray.size), fun hi => by
    have hi : s.length ≤ i := by simpa using hi
    exact (by simpa using hi : s.toArray.size ≤ i), fun w H' x y ex => ?_⟩
  obtain ⟨rfl, c, hc, rfl⟩ := y
  have hc : s[i]? = some c := by simpa using hc
  rw [List.getElem?_map, hc] at ex
  cases ex
  exact .same rfl
end
end M
namespace M
open PySem L2
def wipeS (ρ : Sl) : List Nat → Sl
  | [] => ρ
  | v :: vs => (wipeS ρ vs).set v none
def restS (ρ1 ρ2 : Sl) : List Nat → Sl
  | [] => ρ2
  | v :: vs => (restS ρ1 ρ2 vs).set v (ρ1.getD v none)
def noOwn (ρ : Sl) (vs : List Nat) : Bool := vs.all fun j => match ρ[j]? with
  | some (some (.own _ _)) => false
  | _ => true
theorem Rep.wipe {K : PySem.W.Frag} {F : Fm} {G H : Hp} {σ : Sg} {ρ : Sl} (R : Rep K F G H σ ρ) : ∀ vs : List Nat, Rep K F G H (L2.wipe σ vs) (wipeS ρ vs)
  | [] => R
  | v :: vs => (Rep.wipe R vs).clear
theorem restS_at {ρ1 ρ2 : Sl} {i : Nat} {x : SV} : ∀ {vs : List Nat}, At (restS ρ1 ρ2 vs) i x → (i ∈ vs ∧ At ρ1 i x) ∨ (i ∉ vs ∧ At ρ2 i x)
  | [], h => .inr ⟨by simp, h⟩
  | v :: vs, h => by
    unfold restS at h
    rcases h.of_set with ⟨rfl, e, _⟩ | ⟨hv, h⟩
    · refine .inl ⟨List.mem_cons_self, ?_⟩
      unfold At
      unfold List.getD at e
      cases q : ρ1[v]? with
      | none => rw [q] at e; cases e
      | some o => rw [q] at e; cases e; rfl
    · rcases restS_at h with ⟨h1, h2⟩ | ⟨h1, h2⟩
      · exact .inl ⟨List.mem_cons_of_mem _ h1, h2⟩
      · exact .inr ⟨by simp [h1, Ne.symm hv], h2⟩
theorem restS_len {ρ1 ρ2 : Sl} : ∀ {vs : List Nat}, (restS ρ1 ρ2 vs).length = ρ2.length
  | [] => rfl
  | v :: vs => by unfold restS; rw [List.length_set, restS_len]
theorem wipe_at {σ : Sg} {vs : List Nat} {i : Nat} {v : V} (h : vAt (L2.wipe σ vs) i v) : vAt σ i v ∧ i ∉ vs := wipe_some h
theorem at_wipe {σ : Sg} {vs : List Nat} {i : Nat} {v : V} (h : vAt σ i v) (hi : i ∉ vs) : vAt (L2.wipe σ vs) i v := by
  unfold vAt At at *; rw [wipe_out hi]; exact h
theorem Rep.rest {K : PySem.W.Frag} {F : Fm} {G1 H1 G2 H2 : Hp} {σ : Sg} {ρ1 ρ2 : Sl} {vs : List Nat} (R1 : Rep K F G1 H1 σ ρ1) (R2 : Rep K F G2 H2 (L2.wipe σ vs) ρ2) (s : Same G1 G2) (hn : noOwn ρ1 vs = true) : Rep K F G2 H2 σ (restS ρ1 ρ2 vs) where
  gh := R2.gh
  fh := R2.fh
  fg := R2.fg
  len := by rw [restS_len, R2.len, wipe_length]
  dat := fun i x e => by
    rcases restS_at e with ⟨h1, h2⟩ | ⟨h1, h2⟩
    · obtain ⟨v, g1, g2⟩ := R1.dat i x h2
      exact ⟨v, g1, RD.mono s _ _ g2⟩
    · obtain ⟨v, g1, g2⟩ := R2.dat i x h2
      exact ⟨v, (wipe_at g1).1, g2⟩
  own := fun i b xs e => by
    rcases restS_at e with ⟨h1, h2⟩ | ⟨h1, h2⟩
    · unfold noOwn at hn
      rw [List.all_eq_true] at hn
      have := hn i h1
      unfold At at h2
      rw [h2] at this
      cases this
    · obtain ⟨p, vs, g1, g2⟩ := R2.own i b xs h2
      exact ⟨p, vs, (wipe_at g1).1, g2⟩
  sep := fun i j p b c xs ys hij e1 e2 e3 e4 => by
    have key : ∀ {i : Nat} {b : Bool} {xs : List D}, oAt (restS ρ1 ρ2 vs) i b xs → i ∉ vs ∧ oAt ρ2 i b xs := fun {i b xs} e => by
      rcases restS_at e with ⟨h1, h2⟩ | h
      · unfold noOwn at hn
        rw [List.all_eq_true] at hn
        have := hn i h1
        unfold At at h2
        rw [h2] at this
        cases this
      · exact h
    obtain ⟨n1, o1⟩ := key e1
    obtain ⟨n2, o2⟩ := key e2
    exact R2.sep i j p b c xs ys hij o1 o2 (at_wipe e3 n1) (at_wipe e4 n2)
theorem Rep.poke {K : PySem.W.Frag} {F : Fm} {G H : Hp} {σ : Sg} {ρ : Sl} {p : Addr} {o : HO} (R : Rep K F G H σ ρ) (gp : G p = none) (fp : F.hp p = none) (ns : ∀ i b ys, oAt ρ i b ys → ¬ vAt σ i (.ref p)) : Rep K F G (upd H p o) σ ρ where
  gh := fun b u e => by rw [upd_ne (ne_of_none e gp)]; exact R.gh b u e
  fh := fun b u e => by rw [upd_ne (ne_of_none e fp)]; exact R.fh b u e
  fg := R.fg
  len := R.len
  dat := R.dat
  own := fun i b xs e => by
    obtain ⟨q, vs, h1, h2, h3⟩ := R.own i b xs e
    have hq : q ≠ p := fun z => ns i b xs e (z ▸ h1)
    exact ⟨q, vs, h1, by rw [upd_ne hq]; exact h2, h3⟩
  sep := R.sep
def compGo (vs : List Nat) (bind : Bx) (cond : Tx) (elt : Ex) : List D → List D → Sl → Option (List D × Sl)
  | [], acc, ρ => some (acc, ρ)
  | x :: xs, acc, ρ => match bind x ρ with
    | none => none
    | some ρ1 => match cond ρ1 with
      | none => none
      | some (b, ρ2) => if b then match bFz elt ρ2 with
          | some (.d y, ρ3) => if acc.length < 16777216 then compGo vs bind cond elt xs (acc ++ [y]) (wipeS ρ3 vs) else none
          | _ => none
        else compGo vs bind cond elt xs acc (wipeS ρ2 vs)
def bComp (it : Ix) (vs : List Nat) (bind : Bx) (cond : Tx) (elt : Ex) : Ex := fun ρ => match it ρ with
  | none => none
  | some (xs, ρ1) => if noOwn ρ1 vs then match compGo vs bind cond elt xs [] (wipeS ρ1 vs) with
      | none => none
      | some (ys, ρ2) => some (.own ys, restS ρ1 ρ2 vs)
    else none
def bYes : Tx := fun ρ => some (true, ρ)
theorem sizeLine_num : sizeLine = 16777216 := by decide
structure Acc (K : PySem.W.Frag) (F : Fm) (G H : Hp) (σ : Sg) (ρ : Sl) (P : Addr) (acc : List D) (av : List V) : Prop where
  rep : Rep K F G H σ ρ
  hp : H P = some (.lst av)
  gp : G P = none
  fp : F.hp P = none
  ns : ∀ i b ys, oAt ρ i b ys → ¬ vAt σ i (.ref P)
  rds : RDs K G acc av
theorem Acc.lend {K : PySem.W.Frag} {F : Fm} {G H : Hp} {σ : Sg} {ρ : Sl} {P : Addr} {acc : List D} {av : List V} (a : Acc K F G H σ ρ P acc av) : Rep K ⟨upd F.hp P (.lst av), F.par⟩ G H σ ρ := a.rep.lend a.hp a.gp a.ns
theorem Acc.of {K : PySem.W.Frag} {F : Fm} {G H G0 : Hp} {σ : Sg} {ρ : Sl} {P : Addr} {acc : List D} {av : List V} (R : Rep K ⟨upd F.hp P (.lst av), F.par⟩ G H σ ρ) (fp : F.hp P = none) (r : RDs K G0 acc av) (s : Same G0 G) : Acc K F G H σ ρ P acc av := by
  obtain ⟨R', h1, h2, h3⟩ := R.back fp
  exact ⟨R', h1, h2, fp, h3, RDs.mono s _ _ r⟩
theorem Acc.push {K : PySem.W.Frag} {F : Fm} {G H : Hp} {σ : Sg} {ρ : Sl} {P : Addr} {acc : List D} {av : List V} {y : D} {v : V} (a : Acc K F G H σ ρ P acc av) (h : RD K G y v) : Acc K F G (upd H P (.lst (av ++ [v]))) σ ρ P (acc ++ [y]) (av ++ [v]) :=
  ⟨a.rep.poke a.gp a.fp a.ns, upd_same, a.gp, a.fp, a.ns, a.rds.append (RDs.one h)⟩
theorem Acc.wipe {K : PySem.W.Frag} {F : Fm} {G H : Hp} {σ : Sg} {ρ : Sl} {P : Addr} {acc : List D} {av : List V} (a : Acc K F G H σ ρ P acc av) (vs : List Nat) : Acc K F G H (L2.wipe σ vs) (wipeS ρ vs) P acc av := by
  refine ⟨a.rep.wipe vs, a.hp, a.gp, a.fp, fun i b ys h1 h2 => ?_, a.rds⟩
  have key : ∀ {vs : List Nat} {x : SV}, At (wipeS ρ vs) i x → At ρ i x := by
    intro vs
    induction vs with
    | nil => intro x h; exact h
    | cons v vs ih =>
      intro x h
      unfold wipeS at h
      rcases h.of_set with ⟨_, z, _⟩ | ⟨_, h⟩
      · cases z
      · exact ih h
  exact a.ns i b ys (key h1) (wipe_at h2).1
theorem comp_elt {K : PySem.W.Frag} {F : Fm} {G H : Hp} {σ σ0 : Sg} {ρ : Sl} {P : Addr} {acc : List D} {av : List V} {vs : List Nat} {bind : Bx} {cond : Tx} {elt : Ex} {xs : List D} {out : List D × Sl} {Nx : Hp → Prop}
    (a : Acc K F G H σ ρ P acc av) (hw : L2.wipe σ vs = L2.wipe σ0 vs)
    (e : (match bFz elt ρ with
          | some (.d y, ρ3) => if acc.length < 16777216 then compGo vs bind cond elt xs (acc ++ [y]) (wipeS ρ3 vs) else none
          | _ => none) = some out)
    (hk : ∀ G' H' ρ' acc' av', Same G G' → Acc K F G' H' (L2.wipe σ0 vs) ρ' P acc' av' → compGo vs bind cond elt xs acc' ρ' = some out → Nx H') :
    tE K (bFz elt) σ H fun y H4 => ∃ ac, H4 P = some (.lst ac) ∧ ac.length < sizeLine ∧ Nx (upd H4 P (.lst (ac ++ [y]))) := by
  split at e
  rotate_left
  · cases e
  rename_i y ρ3 e1
  split at e
  rotate_left
  · cases e
  rename_i hl
  refine ⟨_, G, ρ, _, ρ3, a.lend, e1, fun v G1 H1 s1 R1 q1 => ?_⟩
  have a1 := Acc.of R1 a.fp a.rds s1
  refine ⟨av, a1.hp, by rw [sizeLine_num, a.rds.length]; exact hl, ?_⟩
  have a2 := (a1.push (show RD K G1 y v from q1)).wipe vs
  rw [hw] at a2
  exact hk G1 _ _ _ _ s1 a2 e
def CInv (K : PySem.W.Frag) (F : Fm) (G1 : Hp) (σ : Sg) (vs : List Nat) (bind : Bx) (cond : Tx) (elt : Ex) (xs : List D) (P : Addr) (out : List D × Sl) (i m : Nat) (H' : Hp) : Prop :=
  m = xs.length - i ∧ i ≤ xs.length ∧ ∃ G2 ρ2 acc av, Same G1 G2 ∧ Acc K F G2 H' (L2.wipe σ vs) ρ2 P acc av ∧ compGo vs bind cond elt (xs.drop i) acc ρ2 = some out
theorem read_comp {K : PySem.W.Frag} {wi : TI} {g : TG} {it : Ix} {bind : Bx} {cond : Tx} {elt : Ex} {vs is : List Nat} (hi : ItD K wi it) (hg : GD K g bind is) (his : ∀ i ∈ is, i ∈ vs) {σ : Sg} {H : Hp} {Q : VK} (h : tE K (bComp it vs bind cond elt) σ H Q) :
    tLc wi g (tT K cond) (tE K (bFz elt)) vs σ H Q := by
  obtain ⟨F, G, ρ, r, ρ', R, q, k⟩ := h
  unfold bComp at q
  split at q
  · cases q
  rename_i xs ρ1 e1
  split at q
  rotate_left
  · cases q
  rename_i hno
  split at q
  · cases q
  rename_i ys ρ2 e2
  cases q
  refine hi σ H _ ⟨F, G, ρ, xs, ρ1, R, e1, fun J H1 G1 s1 R1 hj => ?_⟩
  intro P hP
  have a0 : Acc K F G1 (upd H1 P (.lst [])) σ ρ1 P [] [] := ⟨R1.new hP, upd_same, R1.gNone hP, R1.fNone hP, R1.oNe hP, rfl⟩
  refine ⟨CInv K F G1 σ vs bind cond elt xs P (ys, ρ2),
    ⟨xs.length, rfl, Nat.zero_le _, G1, _, [], [], Same.refl _, a0.wipe vs, e2⟩, ?_⟩
  rintro i m H' ⟨rfl, hil, G2, ρ3, acc, av, s2, a, e3⟩
  obtain ⟨j1, j2, j3⟩ := hj H' i (s2.trans a.rep.gh)
  by_cases hlt : i < xs.length
  · refine .inr ⟨j1 hlt, CInv K F G1 σ vs bind cond elt xs P (ys, ρ2) (i + 1) (xs.length - (i + 1)), fun H3 w => ⟨xs.length - (i + 1), by omega, w⟩, fun v H3 y => ?_⟩
    obtain ⟨x, hx, hd⟩ := drop_of hlt
    have z := (j3 v H3 x y hx).mono s2
    obtain ⟨G3, s3, R3, q3⟩ := rz_done a.lend z
    rw [hd] at e3
    unfold compGo at e3
    split at e3
    · cases e3
    rename_i ρ4 e4
    refine hg _ G3 H3 _ ρ3 ρ4 x v _ R3 q3 e4 fun σ4 R4 hw => ⟨(hw vs his).trans (wipe_wipe fun _ z => z), ?_⟩
    have hw4 : L2.wipe σ4 vs = L2.wipe σ vs := (hw vs his).trans (wipe_wipe fun _ z => z)
    split at e3
    · cases e3
    rename_i b ρ5 e5
    refine ⟨_, G3, ρ4, b, ρ5, R4, e5, fun G5 H5 s5 R5 => ?_⟩
    have a5 := Acc.of R5 a.fp a.rds (s3.trans s5)
    cases b with
    | true =>
      rw [if_pos rfl] at e3
      refine iteT (comp_elt (bind := bind) (cond := cond) (xs := xs.drop (i + 1)) (out := (ys, ρ2)) (Nx := CInv K F G1 σ vs bind cond elt xs P (ys, ρ2) (i + 1) (xs.length - (i + 1))) a5 hw4 e3 fun G6 H6 ρ6 acc6 av6 s6 a6 e6 => ⟨rfl, hlt, G6, ρ6, acc6, av6, (((s2.trans s3).trans s5).trans s6), a6, e6⟩)
    | false =>
      rw [if_neg (by simp)] at e3
      have a6 := a5.wipe vs
      rw [hw4] at a6
      exact iteF ⟨rfl, hlt, G5, _, acc, av, ((s2.trans s3).trans s5), a6, e3⟩
  · refine .inl ⟨j2 (by omega), ?_⟩
    rw [List.drop_eq_nil_of_le (by omega)] at e3
    cases e3
    have R9 := R1.rest a.rep s2 hno
    refine k (.ref P) G2 H' (s1.trans s2) R9 ⟨P, av, rfl, a.hp, a.gp, a.fp, a.rds, fun j b zs h1 h2 => ?_⟩
    rcases restS_at h1 with ⟨g1, g2⟩ | ⟨g1, g2⟩
    · unfold noOwn at hno
      rw [List.all_eq_true] at hno
      have := hno j g1
      unfold At at g2
      rw [g2] at this
      cases this
    · exact a.ns j b zs g2 (at_wipe h2 g1)
theorem comp_turn {K : PySem.W.Frag} {F : Fm} {g : TG} {bind : Bx} {cond : Tx} {elt : Ex} {vs is : List Nat} (hg : GD K g bind is) (his : ∀ i ∈ is, i ∈ vs) {σ : Sg} {G1 : Hp} {xs : List D} {P : Addr} {out : List D × Sl} {J : It} (hj : JOk K J G1 xs)
    {i m : Nat} {H' : Hp} (hlt : i < xs.length) (c : CInv K F G1 σ vs bind cond elt xs P out i m H') :
    J.go i H' ∧ ∃ Nx : Hp → Prop, (∀ H3, Nx H3 → ∃ m', m' < m ∧ CInv K F G1 σ vs bind cond elt xs P out (i + 1) m' H3) ∧ ∀ v H3, J.yld i H' v H3 → g v (L2.wipe σ vs) H3 fun σ2 H2 => L2.wipe σ2 vs = L2.wipe σ vs ∧ tT K cond σ2 H2 fun b H3 =>
      if b = true then tE K (bFz elt) σ2 H3 fun y H4 => ∃ acc, H4 P = some (.lst acc) ∧ acc.length < sizeLine ∧ Nx (upd H4 P (.lst (acc ++ [y]))) else Nx H3 := by
  obtain ⟨rfl, hil, G2, ρ3, acc, av, s2, a, e3⟩ := c
  obtain ⟨j1, j2, j3⟩ := hj H' i (s2.trans a.rep.gh)
  refine ⟨j1 hlt, CInv K F G1 σ vs bind cond elt xs P out (i + 1) (xs.length - (i + 1)), fun H3 w => ⟨xs.length - (i + 1), by omega, w⟩, fun v H3 y => ?_⟩
  obtain ⟨x, hx, hd⟩ := drop_of hlt
  have z := (j3 v H3 x y hx).mono s2
  obtain ⟨G3, s3, R3, q3⟩ := rz_done a.lend z
  rw [hd] at e3
  unfold compGo at e3
  split at e3
  · cases e3
  rename_i ρ4 e4
  refine hg _ G3 H3 _ ρ3 ρ4 x v _ R3 q3 e4 fun σ4 R4 hw => ⟨(hw vs his).trans (wipe_wipe fun _ z => z), ?_⟩
  have hw4 : L2.wipe σ4 vs = L2.wipe σ vs := (hw vs his).trans (wipe_wipe fun _ z => z)
  split at e3
  · cases e3
  rename_i b ρ5 e5
  refine ⟨_, G3, ρ4, b, ρ5, R4, e5, fun G5 H5 s5 R5 => ?_⟩
  have a5 := Acc.of R5 a.fp a.rds (s3.trans s5)
  cases b with
  | true =>
    rw [if_pos rfl] at e3
    refine iteT (comp_elt (bind := bind) (cond := cond) (xs := xs.drop (i + 1)) (out := out) (Nx := CInv K F G1 σ vs bind cond elt xs P out (i + 1) (xs.length - (i + 1))) a5 hw4 e3 fun G6 H6 ρ6 acc6 av6 s6 a6 e6 => ⟨rfl, hlt, G6, ρ6, acc6, av6, (((s2.trans s3).trans s5).trans s6), a6, e6⟩)
  | false =>
    rw [if_neg (by simp)] at e3
    have a6 := a5.wipe vs
    rw [hw4] at a6
    exact iteF ⟨rfl, hlt, G5, _, acc, av, ((s2.trans s3).trans s5), a6, e3⟩
def comp2Go (vs vs1 : List Nat) (bind : Bx) (cond : Tx) (it1 : Ix) (bind1 : Bx) (cond1 : Tx) (elt : Ex) : List D → List D → Sl → Option (List D × Sl)
  | [], acc, ρ => some (acc, ρ)
  | x :: xs, acc, ρ => match bind x ρ with
    | none => none
    | some ρ1 => match cond ρ1 with
      | none => none
      | some (b, ρ2) => if b then match it1 ρ2 with
          | none => none
          | some (zs, ρ3) => match compGo vs1 bind1 cond1 elt zs acc (wipeS ρ3 vs1) with
            | none => none
            | some (acc', ρ4) => comp2Go vs vs1 bind cond it1 bind1 cond1 elt xs acc' (wipeS ρ4 vs)
        else comp2Go vs vs1 bind cond it1 bind1 cond1 elt xs acc (wipeS ρ2 vs)
def bComp2 (it : Ix) (vs vs1 : List Nat) (bind : Bx) (cond : Tx) (it1 : Ix) (bind1 : Bx) (cond1 : Tx) (elt : Ex) : Ex := fun ρ => match it ρ with
  | none => none
  | some (xs, ρ1) => if noOwn ρ1 vs then match comp2Go vs vs1 bind cond it1 bind1 cond1 elt xs [] (wipeS ρ1 vs) with
      | none => none
      | some (ys, ρ2) => some (.own ys, restS ρ1 ρ2 vs)
    else none
def CInv2 (K : PySem.W.Frag) (F : Fm) (G1 : Hp) (σ : Sg) (vs vs1 : List Nat) (bind : Bx) (cond : Tx) (it1 : Ix) (bind1 : Bx) (cond1 : Tx) (elt : Ex) (xs : List D) (P : Addr) (out : List D × Sl) (i m : Nat) (H' : Hp) : Prop :=
  m = xs.length - i ∧ i ≤ xs.length ∧ ∃ G2 ρ2 acc av, Same G1 G2 ∧ Acc K F G2 H' (L2.wipe σ vs) ρ2 P acc av ∧ comp2Go vs vs1 bind cond it1 bind1 cond1 elt (xs.drop i) acc ρ2 = some out
theorem read_comp2 {K : PySem.W.Frag} {wi wi1 : TI} {g g1 : TG} {it it1 : Ix} {bind bind1 : Bx} {cond cond1 : Tx} {elt : Ex} {vs is vs1 is1 : List Nat} (hi : ItD K wi it) (hg : GD K g bind is) (his : ∀ i ∈ is, i ∈ vs) (hi1 : ItD K wi1 it1) (hg1 : GD K g1 bind1 is1) (his1 : ∀ i ∈ is1, i ∈ vs1)
    (hvs : ∀ i ∈ vs1, i ∈ vs) {σ : Sg} {H : Hp} {Q : VK} (h : tE K (bComp2 it vs vs1 bind cond it1 bind1 cond1 elt) σ H Q) :
    tLc2 wi g (tT K cond) wi1 g1 (tT K cond1) (tE K (bFz elt)) vs vs1 σ H Q := by
  obtain ⟨F, G, ρ, r, ρ', R, q, k⟩ := h
  unfold bComp2 at q
  split at q
  · cases q
  rename_i xs ρ1 e1
  split at q
  rotate_left
  · cases q
  rename_i hno
  split at q
  · cases q
  rename_i ys ρ2 e2
  cases q
  refine hi σ H _ ⟨F, G, ρ, xs, ρ1, R, e1, fun J H1 G1 s1 R1 hj => ?_⟩
  intro P hP
  have a0 : Acc K F G1 (upd H1 P (.lst [])) σ ρ1 P [] [] := ⟨R1.new hP, upd_same, R1.gNone hP, R1.fNone hP, R1.oNe hP, rfl⟩
  refine ⟨CInv2 K F G1 σ vs vs1 bind cond it1 bind1 cond1 elt xs P (ys, ρ2), ⟨xs.length, rfl, Nat.zero_le _, G1, _, [], [], Same.refl _, a0.wipe vs, e2⟩, ?_⟩
  rintro i m H' ⟨rfl, hil, G2, ρ3, acc, av, s2, a, e3⟩
  obtain ⟨j1, j2, j3⟩ := hj H' i (s2.trans a.rep.gh)
  by_cases hlt : i < xs.length
  · refine .inr ⟨j1 hlt, CInv2 K F G1 σ vs vs1 bind cond it1 bind1 cond1 elt xs P (ys, ρ2) (i + 1) (xs.length - (i + 1)), fun H3 w => ⟨xs.length - (i + 1), by omega, w⟩, fun v H3 y => ?_⟩
    obtain ⟨x, hx, hd⟩ := drop_of hlt
    have z := (j3 v H3 x y hx).mono s2
    obtain ⟨G3, s3, R3, q3⟩ := rz_done a.lend z
    rw [hd] at e3
    unfold comp2Go at e3
    split at e3
    · cases e3
    rename_i ρ4 e4
    refine hg _ G3 H3 _ ρ3 ρ4 x v _ R3 q3 e4 fun σ4 R4 hw => ⟨(hw vs his).trans (wipe_wipe fun _ z => z), ?_⟩
    have hw4 : L2.wipe σ4 vs = L2.wipe σ vs := (hw vs his).trans (wipe_wipe fun _ z => z)
    split at e3
    · cases e3
    rename_i b ρ5 e5
    refine ⟨_, G3, ρ4, b, ρ5, R4, e5, fun G5 H5 s5 R5 => ?_⟩
    cases b with
    | true =>
      rw [if_pos rfl] at e3
      refine iteT ?_
      split at e3
      · cases e3
      rename_i zs ρ6 e6
      split at e3
      · cases e3
      rename_i acc' ρ7 e7
      refine hi1 σ4 H5 _ ⟨_, G5, ρ5, zs, ρ6, R5, e6, fun J1 H6 G6 s6 R6 hj1 => ?_⟩
      have a6 := Acc.of R6 a.fp a.rds ((s3.trans s5).trans s6)
      refine ⟨CInv K F G6 σ4 vs1 bind1 cond1 elt zs P (acc', ρ7), ⟨zs.length, rfl, Nat.zero_le _, G6, _, acc, av, Same.refl _, a6.wipe vs1, e7⟩, fun j n H7 c => ?_⟩
      by_cases hl1 : j < zs.length
      · exact .inr (comp_turn hg1 his1 hj1 hl1 c)
      · obtain ⟨rfl, hjl, G7, ρ8, acc8, av8, s7, a8, e8⟩ := c
        obtain ⟨k1, k2, k3⟩ := hj1 H7 j (s7.trans a8.rep.gh)
        refine .inl ⟨k2 (by omega), ?_⟩
        rw [List.drop_eq_nil_of_le (by omega)] at e8
        cases e8
        have a9 := a8.wipe vs
        rw [wipe_wipe hvs, hw4] at a9
        exact ⟨rfl, hlt, G7, _, _, av8, ((((s2.trans s3).trans s5).trans s6).trans s7), a9, e3⟩
    | false =>
      rw [if_neg (by simp)] at e3
      have a6 := (Acc.of R5 a.fp a.rds (s3.trans s5)).wipe vs
      rw [hw4] at a6
      exact iteF ⟨rfl, hlt, G5, _, acc, av, ((s2.trans s3).trans s5), a6, e3⟩
  · refine .inl ⟨j2 (by omega), ?_⟩
    rw [List.drop_eq_nil_of_le (by omega)] at e3
    cases e3
    have R9 := R1.rest a.rep s2 hno
    refine k (.ref P) G2 H' (s1.trans s2) R9 ⟨P, av, rfl, a.hp, a.gp, a.fp, a.rds, fun j b zs h1 h2 => ?_⟩
    rcases restS_at h1 with ⟨g1, g2⟩ | ⟨g1, g2⟩
    · unfold noOwn at hno
      rw [List.all_eq_true] at hno
      have := hno j g1
      unfold At at g2
      rw [g2] at this
      cases this
    · exact a.ns j b zs g2 (at_wipe h2 g1)
end M
namespace M
open PySem PySem.Spec PyProof.Rows L2
section
variable {X : Cx}
def PTsv (X : Cx) (ifs : List Expr) (f : Tx) : Prop := PTs X ifs (tT X.K f)
theorem tsv_nil : PTsv X [] bYes := ⟨fun pins s σ H Q I h => by
  obtain ⟨F, G, ρ, b, ρ', R, e, k⟩ := h
  cases e
  exact pts_nil.run pins s σ H Q I (k G H (Same.refl G) R)⟩
theorem tsv_one {c : Expr} {f : Tx} (h : PTv X c f) : PTsv X [c] f := pts_one h
theorem ev_comp {elt tg iter : Expr} {ifs : List Expr} {scope : Scope} {own : List (Str × Nat)} {pos : Pos} {it : Ix} {bind : Bx} {is : List Nat} {cond : Tx} {fe : Ex} (hc : X.calm = true) (hN : X.N.Nodup) (ok : BlkOk X.N X.env.scope scope own) (hi : PIv X tg iter it)
    (hg : ∀ (s : Shared) (H : Hp) (C : Addr) (cl : List (Str × Addr)) (fp : List Addr), PGv (X.blk s H scope (compEnvC scope cl C X.env) fp) tg bind is)
    (ht : ∀ (s : Shared) (H : Hp) (C : Addr) (cl : List (Str × Addr)) (fp : List Addr), PTsv (X.blk s H scope (compEnvC scope cl C X.env) fp) ifs cond)
    (he : ∀ (s : Shared) (H : Hp) (C : Addr) (cl : List (Str × Addr)) (fp : List Addr), PEv (X.blk s H scope (compEnvC scope cl C X.env) fp) elt fe)
    (his : (is.all fun i => (own.map (·.2)).contains i) = true := by rfl)
    (hs : ∀ x, foldedSetIterable iter X.env x = pure x := by intro _; rfl) :
    PEv X (.ListComp elt [⟨tg, iter, ifs, 0⟩] scope pos) (bComp it (own.map (·.2)) bind cond fe) :=
  PE.imp (pe_lc (g := tG X.K bind is) (tt := tT X.K cond) (te := tE X.K (bFz fe)) hc hN hi ok hg ht (fun s H C cl fp => ev_fz (he s H C cl fp)) hs) fun σ H Q h => read_comp itd_self gd_self (fun i hi => by
    rw [List.all_eq_true] at his
    exact List.contains_iff_mem.mp (his i hi)) h
theorem sv_setComp {elt tg iter : Expr} {ifs : List Expr} {scope : Scope} {own : List (Str × Nat)} {pos spos : Pos} {it : Ix} {bind : Bx} {is : List Nat} {cond : Tx} {fe : Ex} {i : Nat} {y : Str} {py : Pos} (hc : X.calm = true) (hN : X.N.Nodup) (hy : X.N[i]? = some y) (hyl : X.env.scope.names.lookup y = some .local)
    (hsw : swapsWith (.ListComp elt [⟨tg, iter, ifs, 0⟩] scope pos) (some (.Name y py)) spos.line X.env = pure true) (ok : BlkOk X.N X.env.scope scope own) (hi : PIv X tg iter it)
    (hg : ∀ (s : Shared) (H : Hp) (C : Addr) (cl : List (Str × Addr)) (fp : List Addr), PGv (X.blk s H scope (compEnvC scope cl C X.env) fp) tg bind is)
    (ht : ∀ (s : Shared) (H : Hp) (C : Addr) (cl : List (Str × Addr)) (fp : List Addr), PTsv (X.blk s H scope (compEnvC scope cl C X.env) fp) ifs cond)
    (he : ∀ (s : Shared) (H : Hp) (C : Addr) (cl : List (Str × Addr)) (fp : List Addr), PEv (X.blk s H scope (compEnvC scope cl C X.env) fp) elt fe)
    (his : (is.all fun i => (own.map (·.2)).contains i) = true := by rfl)
    (hs : ∀ x, foldedSetIterable iter X.env x = pure x := by intro _; rfl) :
    PSv X (.Assign [.Name y py] (.ListComp elt [⟨tg, iter, ifs, 0⟩] scope pos) spos) (sSet i (bComp it (own.map (·.2)) bind cond fe)) :=
  PS.imp (ps_setLc (g := tG X.K bind is) (tt := tT X.K cond) (te := tE X.K (bFz fe)) hc hN hy hyl hsw hi ok hg ht (fun s H C cl fp => ev_fz (he s H C cl fp)) hs) fun D σ H h => by
    obtain ⟨F, G, ρ, fl, ρ', R, q, k⟩ := h
    unfold sSet at q
    split at q
    · cases q
    rename_i r ρ1 e1
    obtain ⟨ρ2, e2, eq⟩ := Option.map_eq_some_iff.mp q
    cases eq
    refine read_comp itd_self gd_self (fun i hi => by
      rw [List.all_eq_true] at his
      exact List.contains_iff_mem.mp (his i hi)) ⟨F, G, ρ, r, ρ1, R, e1, fun v G1 H1 s1 R1 q => k _ G1 H1 s1 (R1.put q e2)⟩
theorem ev_comp2 {elt tg iter tg1 iter1 : Expr} {ifs ifs1 : List Expr} {scope : Scope} {own : List (Str × Nat)} {vs1 : List Nat} {pos : Pos} {it it1 : Ix} {bind bind1 : Bx} {is is1 : List Nat} {cond cond1 : Tx} {fe : Ex} (hc : X.calm = true) (hN : X.N.Nodup) (ok : BlkOk X.N X.env.scope scope own) (hi : PIv X tg iter it)
    (hg : ∀ (s : Shared) (H : Hp) (C : Addr) (cl : List (Str × Addr)) (fp : List Addr), PGv (X.blk s H scope (compEnvC scope cl C X.env) fp) tg bind is)
    (ht : ∀ (s : Shared) (H : Hp) (C : Addr) (cl : List (Str × Addr)) (fp : List Addr), PTsv (X.blk s H scope (compEnvC scope cl C X.env) fp) ifs cond)
    (hi1 : ∀ (s : Shared) (H : Hp) (C : Addr) (cl : List (Str × Addr)) (fp : List Addr), PIv (X.blk s H scope (compEnvC scope cl C X.env) fp) tg1 iter1 it1)
    (hg1 : ∀ (s : Shared) (H : Hp) (C : Addr) (cl : List (Str × Addr)) (fp : List Addr), PGv (X.blk s H scope (compEnvC scope cl C X.env) fp) tg1 bind1 is1)
    (ht1 : ∀ (s : Shared) (H : Hp) (C : Addr) (cl : List (Str × Addr)) (fp : List Addr), PTsv (X.blk s H scope (compEnvC scope cl C X.env) fp) ifs1 cond1)
    (he : ∀ (s : Shared) (H : Hp) (C : Addr) (cl : List (Str × Addr)) (fp : List Addr), PEv (X.blk s H scope (compEnvC scope cl C X.env) fp) elt fe)
    (his : (is.all fun i => (own.map (·.2)).contains i) = true := by rfl) (his1 : (is1.all fun i => vs1.contains i) = true := by rfl) (hvs : (vs1.all fun i => (own.map (·.2)).contains i) = true := by rfl)
    (hs : ∀ x, foldedSetIterable iter X.env x = pure x := by intro _; rfl) (hs1 : ∀ env x, foldedSetIterable iter1 env x = pure x := by intro _ _; rfl) :
    PEv X (.ListComp elt [⟨tg, iter, ifs, 0⟩, ⟨tg1, iter1, ifs1, 0⟩] scope pos) (bComp2 it (own.map (·.2)) vs1 bind cond it1 bind1 cond1 fe) := by
  have hv : ∀ i ∈ vs1, i ∈ own.map (·.2) := fun i hi => by
    rw [List.all_eq_true] at hvs
    exact List.contains_iff_mem.mp (hvs i hi)
  exact PE.imp (pe_lc2 (g := tG X.K bind is) (tt := tT X.K cond) (wi1 := tIt X.K it1) (g1 := tG X.K bind1 is1) (tt1 := tT X.K cond1) (te := tE X.K (bFz fe)) hc hN hi ok hv hg ht hi1 hg1 ht1 (fun s H C cl fp => ev_fz (he s H C cl fp)) hs hs1) fun σ H Q h => read_comp2 itd_self gd_self (fun i hi => by
    rw [List.all_eq_true] at his
    exact List.contains_iff_mem.mp (his i hi)) itd_self gd_self (fun i hi => by
    rw [List.all_eq_true] at his1
    exact List.contains_iff_mem.mp (his1 i hi)) hv h
end
def enter : SV → SV
  | .own _ xs => .own true xs
  | s => s
def outs : List SV → Nat → Sl → Option (List SV)
  | [], _, _ => some []
  | .d x :: as, k, ρ => (outs as (k + 1) ρ).map fun r => .d x :: r
  | .own _ _ :: as, k, ρ => match ρ[k]? with
    | some (some (.own true ys)) => (outs as (k + 1) ρ).map fun r => .own true ys :: r
    | _ => none
def fin (fl : Fl) (ρ : Sl) : Option RV := match fl with
  | .nx => some (.d .non)
  | .rt (.d x) => some (.d x)
  | .rt (.own xs) => some (.own xs)
  | .rt (.bor i) => match ρ[i]? with
    | some (some (.own false xs)) => some (.own xs)
    | _ => none
  | _ => none
abbrev Fx := List SV → Option (RV × List SV)
def runB (n m : Nat) (body : Sx) : Fx := fun args => if args.length = m then match body (args.map some ++ List.replicate (n - args.length) none) with
  | none => none
  | some (fl, ρ) => match fin fl ρ, outs args 0 ρ with
    | some r, some as => some (r, as)
    | _, _ => none
  else none
def spV (K : PySem.W.Frag) (f : Fx) : Sp := fun vs H Q E => ∃ F G args r as, Rep K F G H (vs.map some) (args.map some) ∧ (∀ (k : Nat) (b : Bool) (xs : List D), args[k]? = some (SV.own b xs) → b = true) ∧ f args = some (r, as) ∧
  ∀ v G' H', Same G G' → Rep K F G' H' (vs.map some) (as.map some) → RR K F G' H' (vs.map some) (as.map some) r v → Q v H'
theorem at_map {α : Type} {l : List α} {i : Nat} {x : α} : At (l.map some) i x ↔ l[i]? = some x := by
  unfold At
  rw [List.getElem?_map]
  cases l[i]? with
  | none => simp
  | some y => simp
theorem at_ext {α : Type} {l : List α} {n i : Nat} {x : α} : At (l.map some ++ List.replicate n none) i x ↔ l[i]? = some x := by
  unfold At
  by_cases h : i < l.length
  · rw [List.getElem?_append_left (by simpa using h)]
    exact at_map
  · rw [List.getElem?_append_right (by simpa using h), List.getElem?_replicate]
    rw [List.getElem?_eq_none (by omega : l.length ≤ i)]
    split <;> simp
theorem Rep.start {K : PySem.W.Frag} {F : Fm} {G H : Hp} {vs : List V} {args : List SV} {n : Nat} (R : Rep K F G H (vs.map some) (args.map some)) : Rep K F G H (vs.map some ++ List.replicate n none) (args.map some ++ List.replicate n none) where
  gh := R.gh
  fh := R.fh
  fg := R.fg
  len := by have := R.len; simp at this ⊢; omega
  dat := fun i x e => by
    obtain ⟨v, h1, h2⟩ := R.dat i x (at_map.mpr (at_ext.mp e))
    exact ⟨v, at_ext.mpr (at_map.mp h1), h2⟩
  own := fun i b xs e => by
    obtain ⟨p, vs', h1, h2⟩ := R.own i b xs (at_map.mpr (at_ext.mp e))
    exact ⟨p, vs', at_ext.mpr (at_map.mp h1), h2⟩
  sep := fun i j p b c xs ys hij e1 e2 e3 e4 => R.sep i j p b c xs ys hij (at_map.mpr (at_ext.mp e1)) (at_map.mpr (at_ext.mp e2)) (at_map.mpr (at_ext.mp e3)) (at_map.mpr (at_ext.mp e4))
theorem outs_get {ρ : Sl} : ∀ {args : List SV} {k : Nat} {as : List SV}, outs args k ρ = some as → as.length = args.length ∧ (∀ (i : Nat) (x : D), as[i]? = some (SV.d x) → args[i]? = some (SV.d x)) ∧ (∀ (i : Nat) (b : Bool) (ys : List D), as[i]? = some (SV.own b ys) → b = true ∧ (∃ c xs, args[i]? = some (SV.own c xs)) ∧ oAt ρ (k + i) true ys)
  | [], k, as, e => by cases e; simp
  | .d x :: args, k, as, e => by
    obtain ⟨r, h1, h2⟩ := Option.map_eq_some_iff.mp e
    subst h2
    obtain ⟨g1, g2, g3⟩ := outs_get h1
    refine ⟨by simp [g1], fun i y q => ?_, fun i b ys q => ?_⟩
    · cases i with
      | zero => simpa using q
      | succ i => exact g2 i y (by simpa using q)
    · cases i with
      | zero => simp at q
      | succ i =>
        obtain ⟨z1, z2, z3⟩ := g3 i b ys (by simpa using q)
        exact ⟨z1, by simpa using z2, by have : k + (i + 1) = k + 1 + i := by omega
                                         rw [this]; exact z3⟩
  | .own c xs :: args, k, as, e => by
    unfold outs at e
    split at e
    rotate_left
    · cases e
    rename_i ys o
    obtain ⟨r, h1, h2⟩ := Option.map_eq_some_iff.mp e
    subst h2
    obtain ⟨g1, g2, g3⟩ := outs_get h1
    refine ⟨by simp [g1], fun i y q => ?_, fun i b zs q => ?_⟩
    · cases i with
      | zero => simp at q
      | succ i => exact g2 i y (by simpa using q)
    · cases i with
      | zero =>
        simp at q
        obtain ⟨rfl, rfl⟩ := q
        exact ⟨rfl, ⟨c, xs, rfl⟩, o⟩
      | succ i =>
        obtain ⟨z1, z2, z3⟩ := g3 i b zs (by simpa using q)
        exact ⟨z1, by simpa using z2, by have : k + (i + 1) = k + 1 + i := by omega
                                         rw [this]; exact z3⟩
theorem fn_end {K : PySem.W.Frag} {F : Fm} {G G' H H' : Hp} {vs : List V} {args as : List SV} {σ' : Sg} {ρ' : Sl} {fl : Fl} {r : RV} {v : V} (R : Rep K F G H (vs.map some) (args.map some)) (ht : ∀ (k : Nat) (b : Bool) (xs : List D), args[k]? = some (SV.own b xs) → b = true) (s : Same G G') (R' : Rep K F G' H' σ' ρ')
    (e1 : fin fl ρ' = some r) (e2 : outs args 0 ρ' = some as) (hv : match fl with | .rt q => RR K F G' H' σ' ρ' q v | _ => v = V.non) :
    Rep K F G' H' (vs.map some) (as.map some) ∧ RR K F G' H' (vs.map some) (as.map some) r v := by
  obtain ⟨g1, g2, g3⟩ := outs_get e2
  have key : ∀ k b ys, oAt (as.map some) k b ys → ∃ p, vAt (vs.map some) k (.ref p) ∧ vAt σ' k (.ref p) ∧ oAt ρ' k true ys ∧ b = true ∧ ∃ c xs, oAt (args.map some) k c xs := fun k b ys e => by
    obtain ⟨z1, ⟨c, xs, z2⟩, z3⟩ := g3 k b ys (at_map.mp e)
    have z3 : oAt ρ' k true ys := by simpa using z3
    have hc := ht k c xs z2
    obtain ⟨p, us, h1, h2, h3, h4, h5, h6⟩ := R.own k c xs (at_map.mpr z2)
    obtain ⟨p', us', k1, k2, k3, k4, k5, k6⟩ := R'.own k true ys z3
    have : p' = p := Option.some.inj ((k6 rfl).symm.trans (h6 hc))
    subst this
    exact ⟨p', h1, k1, z3, z1, c, xs, at_map.mpr z2⟩
  refine ⟨⟨R'.gh, R'.fh, R'.fg, ?_, fun i x e => ?_, fun i b xs e => ?_, fun i j p b c xs ys hij f1 f2 f3 f4 => ?_⟩, ?_⟩
  · have := R.len
    simp at this ⊢; omega
  · obtain ⟨w, h1, h2⟩ := R.dat i x (at_map.mpr (g2 i x (at_map.mp e)))
    exact ⟨w, h1, RD.mono s _ _ h2⟩
  · obtain ⟨p, h1, h2, h3, h4, _⟩ := key i b xs e
    obtain ⟨p', us', k1, k2, k3, k4, k5, k6⟩ := R'.own i true xs h3
    have : p' = p := by cases k1.inj h2; rfl
    subst this
    exact ⟨p', us', h1, k2, k3, k4, k5, fun _ => k6 rfl⟩
  · obtain ⟨_, _, _, _, _, c1, x1, o1⟩ := key i b xs f1
    obtain ⟨_, _, _, _, _, c2, x2, o2⟩ := key j c ys f2
    exact R.sep i j p c1 c2 x1 x2 hij o1 o2 f3 f4
  · cases fl with
    | nx => cases e1; exact hv
    | bk => cases e1
    | ct => cases e1
    | rt q =>
      cases q with
      | d x => cases e1; exact hv
      | own xs =>
        cases e1
        obtain ⟨q, us, rfl, h2, h3, h4, h5, h6⟩ := hv
        refine ⟨q, us, rfl, h2, h3, h4, h5, fun k b ys o1 o2 => ?_⟩
        obtain ⟨p, k1, k2, k3, k4, _⟩ := key k b ys o1
        have : p = q := by cases k1.inj o2; rfl
        subst this
        exact h6 k true ys k3 k2
      | bor i =>
        unfold fin at e1
        dsimp only at e1
        split at e1
        rotate_left
        · cases e1
        rename_i xs o
        cases e1
        have hv : vAt σ' i v := hv
        obtain ⟨q, us, h1, h2, h3, h4, h5, h6⟩ := R'.own i false xs o
        cases h1.inj hv
        refine ⟨q, us, rfl, h2, h3, h4, h5, fun k b ys o1 o2 => ?_⟩
        obtain ⟨p, k1, k2, k3, k4, _⟩ := key k b ys o1
        have : p = q := by cases k1.inj o2; rfl
        subst this
        have hik : i ≠ k := fun z => by subst z; cases At.inj o k3
        exact R'.sep i k p false true xs ys hik o k3 hv k2
section
variable {P : Program} {w : World} {K : PySem.W.Frag} {mg : Str → Option Value} {base : Heap}
theorem fn_body {N ps : List Str} {body : Sx} {vs : List V} {H : Hp} {Q : VK} {E : XK} (h : spV K (runB N.length ps.length body) vs H Q E) : tS K body { nx := fun _ H' => Q .non H', rt := Q } (L2.start N vs) H := by
  have hl : ∀ args r as, runB N.length ps.length body args = some (r, as) → args.length = ps.length := fun args r as e => by
    unfold runB at e
    split at e
    · assumption
    · cases e
  obtain ⟨F, G, args, r, as, R, ht, e, q⟩ := h
  have hlen : args.length = vs.length := by simpa using R.len
  have e' := e
  unfold runB at e
  rw [if_pos (hl args r as e')] at e
  split at e
  · cases e
  rename_i fl ρ' e1
  split at e
  rotate_left
  · cases e
  rename_i r' as' e2 e3
  cases e
  have R0 : Rep K F G H (L2.start N vs) (args.map some ++ List.replicate (N.length - args.length) none) := by
    unfold L2.start
    rw [hlen]
    exact R.start
  refine ⟨F, G, _, fl, ρ', R0, e1, fun σ' G' H' s' R' => ?_⟩
  cases fl with
  | nx =>
    obtain ⟨z1, z2⟩ := fn_end (v := .non) R ht s' R' e2 e3 rfl
    exact q .non G' H' s' z1 z2
  | bk => cases e2
  | ct => cases e2
  | rt u =>
    intro v hv
    obtain ⟨z1, z2⟩ := fn_end R ht s' R' e2 e3 hv
    exact q v G' H' s' z1 z2
theorem fn_ok {x qual : Str} {st : Stmt} {f : Addr} {fd : FuncData} {N ps : List Str} {k : Nat} {body : Sx} (F : Fun K x qual st f fd) (S : FnScope N ps (defScope st)) {g : Fx} (hg : g = runB N.length ps.length body)
    (hb : ∀ (cdv : Value) (A : Around) (outer : List Env) (s : Shared) (H : Hp) (E : XK), Room k (A.deeper (envOfC qual (defScope st) s.heap.objs.size f cdv)) →
      PBv (cxOf CX0 P w K mg base N qual (defScope st) f cdv A outer s H E).nox (defBody st) body) : FnOk P w K mg base CX0 (k + 1) f fd ps (spV K g) := by
  subst hg
  refine F.ok S (fun vs H Q E h => ?_) (fun cdv A outer s H vs Q E hr h => ⟨_, hb cdv A outer s H E hr, fn_body h⟩)
  obtain ⟨F, G, args, r, as, R, ht, e, q⟩ := h
  have := R.len
  have hl : args.length = ps.length := by
    unfold runB at e
    split at e
    · assumption
    · cases e
  rw [← hl]
  simpa using this.symm
end
end M
namespace M
open PySem PySem.Spec PyProof.Rows L2
def argOf (ρ : Sl) : RV → Option SV
  | .d x => some (.d x)
  | .own _ => none
  | .bor i => match ρ[i]? with
    | some (some (.own _ xs)) => some (.own true xs)
    | _ => none
def argsOf (ρ : Sl) : List RV → Option (List SV)
  | [] => some []
  | r :: rs => match argOf ρ r, argsOf ρ rs with
    | some x, some xs => some (x :: xs)
    | _, _ => none
def give : List RV → List SV → Sl → Option Sl
  | [], [], ρ => some ρ
  | .d _ :: rs, .d _ :: as, ρ => give rs as ρ
  | .bor i :: rs, .own _ ys :: as, ρ => match ρ[i]? with
    | some (some (.own b _)) => give rs as (ρ.set i (some (.own b ys)))
    | _ => none
  | _, _, _ => none
def bors : List RV → List Nat
  | [] => []
  | .bor i :: rs => i :: bors rs
  | _ :: rs => bors rs
def bCall (f : Fx) (fs : Ax) : Ex := fun ρ => match fs ρ with
  | none => none
  | some (rs, ρ1) => if (bors rs).Nodup then match argsOf ρ1 rs with
      | none => none
      | some args => match f args with
        | none => none
        | some (.bor _, _) => none
        | some (r, as) => (give rs as ρ1).map fun ρ2 => (r, ρ2)
    else none
theorem mem_bors {rs : List RV} {i : Nat} : i ∈ bors rs ↔ ∃ k : Nat, rs[k]? = some (RV.bor i) := by
  induction rs with
  | nil => simp [bors]
  | cons r rs ih =>
    constructor
    · intro h
      cases r with
      | bor j =>
        rcases List.mem_cons.mp (show i ∈ j :: bors rs from h) with rfl | h
        · exact ⟨0, rfl⟩
        · obtain ⟨k, hk⟩ := ih.mp h
          exact ⟨k + 1, by simpa using hk⟩
      | d x =>
        obtain ⟨k, hk⟩ := ih.mp (show i ∈ bors rs from h)
        exact ⟨k + 1, by simpa using hk⟩
      | own x =>
        obtain ⟨k, hk⟩ := ih.mp (show i ∈ bors rs from h)
        exact ⟨k + 1, by simpa using hk⟩
    · rintro ⟨k, hk⟩
      cases k with
      | zero =>
        simp at hk
        subst hk
        exact List.mem_cons_self
      | succ k =>
        have := ih.mpr ⟨k, by simpa using hk⟩
        cases r with
        | bor j => exact List.mem_cons_of_mem _ this
        | d x => exact this
        | own x => exact this
theorem bors_uniq : ∀ {rs : List RV} {i j k : Nat}, (bors rs).Nodup → rs[j]? = some (RV.bor i) → rs[k]? = some (RV.bor i) → j = k
  | [], i, j, k, h, e1, e2 => by simp at e1
  | r :: rs, i, j, k, h, e1, e2 => by
    have ht : (bors rs).Nodup := by
      cases r with
      | bor l => exact (List.nodup_cons.mp (show (l :: bors rs).Nodup from h)).2
      | d x => exact h
      | own x => exact h
    cases j with
    | zero =>
      simp at e1
      subst e1
      have hn : i ∉ bors rs := (List.nodup_cons.mp (show (i :: bors rs).Nodup from h)).1
      cases k with
      | zero => rfl
      | succ k => exact absurd (mem_bors.mpr ⟨k, by simpa using e2⟩) hn
    | succ j =>
      cases k with
      | zero =>
        simp at e2
        subst e2
        have hn : i ∉ bors rs := (List.nodup_cons.mp (show (i :: bors rs).Nodup from h)).1
        exact absurd (mem_bors.mpr ⟨j, by simpa using e1⟩) hn
      | succ k =>
        have e1 : rs[j]? = some (RV.bor i) := by simpa using e1
        have e2 : rs[k]? = some (RV.bor i) := by simpa using e2
        have := bors_uniq ht e1 e2
        rw [this]
theorem argsOf_get {ρ : Sl} : ∀ {rs : List RV} {args : List SV}, argsOf ρ rs = some args → args.length = rs.length ∧ (∀ (k : Nat) (x : D), args[k]? = some (SV.d x) → rs[k]? = some (RV.d x)) ∧
    (∀ (k : Nat) (b : Bool) (xs : List D), args[k]? = some (SV.own b xs) → b = true ∧ ∃ i c, rs[k]? = some (RV.bor i) ∧ oAt ρ i c xs)
  | [], args, e => by cases e; simp
  | r :: rs, args, e => by
    unfold argsOf at e
    split at e
    rotate_left
    · cases e
    rename_i x xs e1 e2
    cases e
    obtain ⟨g1, g2, g3⟩ := argsOf_get e2
    refine ⟨by simp [g1], fun k y q => ?_, fun k b ys q => ?_⟩
    · cases k with
      | zero =>
        simp at q
        subst q
        cases r with
        | d z => cases e1; rfl
        | own z => cases e1
        | bor i =>
          dsimp only [argOf] at e1
          split at e1 <;> cases e1
      | succ k => simpa using g2 k y (by simpa using q)
    · cases k with
      | zero =>
        simp at q
        subst q
        cases r with
        | d z => cases e1
        | own z => cases e1
        | bor i =>
          dsimp only [argOf] at e1
          split at e1
          · rename_i c zs o
            cases e1
            exact ⟨rfl, i, c, rfl, o⟩
          · cases e1
      | succ k => simpa using g3 k b ys (by simpa using q)
theorem RNs.get {K : PySem.W.Frag} {G : Hp} {σ : Sg} : ∀ {rs : List RV} {vs : List V}, RNs K G σ rs vs → vs.length = rs.length ∧ ∀ (k : Nat) (r : RV), rs[k]? = some r → ∃ v, vs[k]? = some v ∧ RN K G σ r v
  | [], vs, h => by cases h; simp
  | r :: rs, vs, ⟨x, xs, e1, e2, e3⟩ => by
    subst e1
    obtain ⟨g1, g2⟩ := RNs.get e3
    refine ⟨by simp [g1], fun k q e => ?_⟩
    cases k with
    | zero =>
      simp at e
      subst e
      exact ⟨x, rfl, e2⟩
    | succ k => simpa using g2 k q (by simpa using e)
theorem give_get : ∀ {rs : List RV} {as : List SV} {ρ ρ2 : Sl}, give rs as ρ = some ρ2 → (bors rs).Nodup → ρ2.length = ρ.length ∧ ∀ (i : Nat) (x : SV), At ρ2 i x →
    (∃ (k : Nat) (b c : Bool) (ys xs : List D), rs[k]? = some (RV.bor i) ∧ as[k]? = some (SV.own c ys) ∧ x = .own b ys ∧ oAt ρ i b xs) ∨ (i ∉ bors rs ∧ At ρ i x)
  | [], [], ρ, ρ2, e, h => by cases e; exact ⟨rfl, fun i x q => .inr ⟨by simp [bors], q⟩⟩
  | [], a :: as, ρ, ρ2, e, h => by cases e
  | .d y :: rs, [], ρ, ρ2, e, h => by cases e
  | .d y :: rs, .own _ _ :: as, ρ, ρ2, e, h => by cases e
  | .d y :: rs, .d _ :: as, ρ, ρ2, e, h => by
    obtain ⟨g1, g2⟩ := give_get (rs := rs) e h
    refine ⟨g1, fun i x q => ?_⟩
    rcases g2 i x q with ⟨k, b, c, ys, xs, h1, h2, h3⟩ | h
    · exact .inl ⟨k + 1, b, c, ys, xs, by simpa using h1, by simpa using h2, h3⟩
    · exact .inr h
  | .own _ :: rs, [], ρ, ρ2, e, h => by cases e
  | .own _ :: rs, .d _ :: as, ρ, ρ2, e, h => by cases e
  | .own _ :: rs, .own _ _ :: as, ρ, ρ2, e, h => by cases e
  | .bor j :: rs, [], ρ, ρ2, e, h => by cases e
  | .bor j :: rs, .d _ :: as, ρ, ρ2, e, h => by cases e
  | .bor j :: rs, .own c ys :: as, ρ, ρ2, e, h => by
    unfold give at e
    split at e
    rotate_left
    · cases e
    rename_i b xs o
    have hd := List.nodup_cons.mp (show (j :: bors rs).Nodup from h)
    obtain ⟨g1, g2⟩ := give_get e hd.2
    refine ⟨by rw [g1, List.length_set], fun i x q => ?_⟩
    rcases g2 i x q with ⟨k, b', c', ys', xs', h1, h2, h3, h4⟩ | ⟨h1, h2⟩
    · have hij : j ≠ i := fun z => hd.1 (mem_bors.mpr ⟨k, z ▸ h1⟩)
      rcases At.of_set h4 with ⟨z, _, _⟩ | ⟨_, h4⟩
      · exact absurd z hij
      · exact .inl ⟨k + 1, b', c', ys', xs', by simpa using h1, by simpa using h2, h3, h4⟩
    · rcases h2.of_set with ⟨rfl, z, _⟩ | ⟨z, h2⟩
      · cases z
        exact .inl ⟨0, b, c, ys, xs, rfl, rfl, rfl, o⟩
      · exact .inr ⟨fun m => by
          rcases List.mem_cons.mp (show i ∈ j :: bors rs from m) with w | w
          · exact z w.symm
          · exact h1 w, h2⟩
theorem read_call {K : PySem.W.Frag} {f : Fx} {fs : Ax} {E : XK} {σ : Sg} {H : Hp} {Q : VK} (h : tE K (bCall f fs) σ H Q) : tCall (spV K f) [] E (tAr K fs) σ H Q := by
  obtain ⟨F, G, ρ, r, ρ2, R, e, k⟩ := h
  unfold bCall at e
  split at e
  · cases e
  rename_i rs ρ1 e1
  split at e
  rotate_left
  · cases e
  rename_i hnd
  split at e
  · cases e
  rename_i args e2
  split at e
  · cases e
  · cases e
  rename_i r' as hnb e3
  obtain ⟨ρ3, e4, eq⟩ := Option.map_eq_some_iff.mp e
  cases eq
  refine ⟨F, G, ρ, rs, ρ1, R, e1, fun vs G1 H1 s1 R1 q1 => ?_⟩
  show spV K f (vs ++ []) H1 Q E
  rw [List.append_nil]
  obtain ⟨l1, a1, a2⟩ := argsOf_get e2
  obtain ⟨l2, n1⟩ := q1.get
  obtain ⟨l3, g1⟩ := give_get e4 hnd
  let A : Addr → Prop := fun p => ∃ i b xs, i ∈ bors rs ∧ oAt ρ1 i b xs ∧ vAt σ i (.ref p)
  have decA : ∀ p, Decidable (A p) := fun p => Classical.propDecidable _
  let F' : Fm := ⟨fun b => if G1 b = none ∧ ¬ A b then H1 b else none, fun j => match vs[j]? with | some (.ref p) => some p | _ => none⟩
  have fp : ∀ b o, F'.hp b = some o → G1 b = none ∧ ¬ A b ∧ H1 b = some o := fun b o q => by
    have q : (if G1 b = none ∧ ¬ A b then H1 b else none) = some o := q
    split at q
    · rename_i z; exact ⟨z.1, z.2, q⟩
    · cases q
  have pf : ∀ b o, G1 b = none → ¬ A b → H1 b = some o → F'.hp b = some o := fun b o z1 z2 z3 => by
    show (if G1 b = none ∧ ¬ A b then H1 b else none) = some o
    rw [if_pos ⟨z1, z2⟩]; exact z3
  have slot : ∀ j b xs, args[j]? = some (SV.own b xs) → b = true ∧ ∃ i c p us, rs[j]? = some (RV.bor i) ∧ oAt ρ1 i c xs ∧ vAt σ i (.ref p) ∧ vs[j]? = some (V.ref p) ∧ H1 p = some (.lst us) ∧ G1 p = none ∧ F.hp p = none ∧ RDs K G1 xs us ∧ A p := fun j b xs q => by
    obtain ⟨hb, i, c, z1, z2⟩ := a2 j b xs q
    obtain ⟨p, us, h1, h2, h3, h4, h5, h6⟩ := R1.own i c xs z2
    obtain ⟨v, w1, w2⟩ := n1 j _ z1
    have w2 : vAt σ i v := w2
    cases h1.inj w2
    exact ⟨hb, i, c, p, us, z1, z2, h1, w1, h2, h3, h4, h5, i, c, xs, mem_bors.mpr ⟨j, z1⟩, z2, h1⟩
  have R2 : Rep K F' G1 H1 (vs.map some) (args.map some) := by
    refine ⟨R1.gh, fun b o q => (fp b o q).2.2, fun b o q => (fp b o q).1, by simp [l1, l2], fun j x q => ?_, fun j b xs q => ?_, fun i j p b c xs ys hij q1 q2 q3 q4 => ?_⟩
    · obtain ⟨v, w1, w2⟩ := n1 j _ (a1 j x (at_map.mp q))
      exact ⟨v, at_map.mpr w1, w2⟩
    · obtain ⟨hb, i, c, p, us, z1, z2, z3, z4, z5, z6, z7, z8, z9⟩ := slot j b xs (at_map.mp q)
      refine ⟨p, us, at_map.mpr z4, z5, z6, ?_, z8, fun _ => ?_⟩
      · show (if G1 p = none ∧ ¬ A p then H1 p else none) = none
        rw [if_neg (fun z => z.2 z9)]
      · show (match vs[j]? with | some (.ref p) => some p | _ => none) = some p
        rw [z4]
    · obtain ⟨_, i1, c1, p1, us1, z1, z2, z3, z4, _⟩ := slot i b xs (at_map.mp q1)
      obtain ⟨_, i2, c2, p2, us2, y1, y2, y3, y4, _⟩ := slot j c ys (at_map.mp q2)
      have e1 := at_map.mp q3
      have e2 := at_map.mp q4
      rw [z4] at e1; cases e1
      rw [y4] at e2; cases e2
      have hi : i1 ≠ i2 := fun z => hij (bors_uniq hnd z1 (z ▸ y1))
      exact R1.sep i1 i2 p c1 c2 _ _ hi z2 y2 z3 y3
  refine ⟨F', G1, args, _, as, R2, fun j b xs q => (slot j b xs q).1, e3, fun v G' H' s' R' q' => ?_⟩
  have own3 : ∀ i b ys, oAt ρ2 i b ys → ∃ p us, vAt σ i (.ref p) ∧ H' p = some (.lst us) ∧ G' p = none ∧ F.hp p = none ∧ RDs K G' ys us ∧ (b = true → F.par i = some p) ∧ (∃ xs, oAt ρ1 i b xs) ∧ ((∃ j c zs, as[j]? = some (SV.own c zs) ∧ vs[j]? = some (V.ref p)) ∨ F'.hp p ≠ none) := fun i b ys q => by
    rcases g1 i _ q with ⟨j, b', c, ys', xs, h1, h2, h3, h4⟩ | ⟨h1, h2⟩
    · cases h3
      obtain ⟨p, us, k1, k2, k3, k4, k5, k6⟩ := R1.own i _ xs h4
      obtain ⟨v', w1, w2⟩ := n1 j _ h1
      have w2 : vAt σ i v' := w2
      cases k1.inj w2
      obtain ⟨p', us', m1, m2, m3, m4, m5, m6⟩ := R'.own j c ys (at_map.mpr h2)
      have e := at_map.mp m1
      rw [w1] at e; cases e
      exact ⟨p, us', k1, m2, m3, k4, m5, k6, ⟨xs, h4⟩, .inl ⟨j, c, ys, h2, w1⟩⟩
    · obtain ⟨p, us, k1, k2, k3, k4, k5, k6⟩ := R1.own i b ys h2
      have nA : ¬ A p := by
        rintro ⟨i', b', xs', w1, w2, w3⟩
        have hi : i' ≠ i := fun z => h1 (z ▸ w1)
        exact R1.sep i' i p b' b xs' ys hi w2 h2 w3 k1
      have z := pf p _ k3 nA k2
      exact ⟨p, us, k1, R'.fh p _ z, R'.fg p _ z, k4, RDs.mono s' _ _ k5, k6, ⟨ys, h2⟩, .inr (by rw [z]; simp)⟩
  refine k v G' H' (s1.trans s') ⟨R'.gh, fun b o q => ?_, fun b o q => ?_, by rw [l3]; exact R1.len, fun i x q => ?_, fun i b ys q => ?_, fun i j p b c xs ys hij q1 q2 q3 q4 => ?_⟩ ?_
  · refine R'.fh b o (pf b o (R1.fg b o q) ?_ (R1.fh b o q))
    rintro ⟨i, c, xs, w1, w2, w3⟩
    obtain ⟨p, us, k1, k2, k3, k4, _⟩ := R1.own i c xs w2
    cases k1.inj w3
    rw [k4] at q; cases q
  · refine R'.fg b o (pf b o (R1.fg b o q) ?_ (R1.fh b o q))
    rintro ⟨i, c, xs, w1, w2, w3⟩
    obtain ⟨p, us, k1, k2, k3, k4, _⟩ := R1.own i c xs w2
    cases k1.inj w3
    rw [k4] at q; cases q
  · rcases g1 i _ q with ⟨j, b', c, ys', xs, h1, h2, h3, h4⟩ | ⟨h1, h2⟩
    · cases h3
    · obtain ⟨v, w1, w2⟩ := R1.dat i x h2
      exact ⟨v, w1, RD.mono s' _ _ w2⟩
  · obtain ⟨p, us, z1, z2, z3, z4, z5, z6, _⟩ := own3 i b ys q
    exact ⟨p, us, z1, z2, z3, z4, z5, z6⟩
  · obtain ⟨_, _, _, _, _, _, _, _, ⟨xs1, o1⟩, _⟩ := own3 i b xs q1
    obtain ⟨_, _, _, _, _, _, _, _, ⟨xs2, o2⟩, _⟩ := own3 j c ys q2
    exact R1.sep i j p b c xs1 xs2 hij o1 o2 q3 q4
  · cases r with
    | d x => exact q'
    | bor i =>
      exact (hnb i rfl).elim
    | own xs =>
      obtain ⟨q, us, rfl, h2, h3, h4, h5, h6⟩ := q'
      refine ⟨q, us, rfl, h2, h3, ?_, h5, fun i b ys o1 o2 => ?_⟩
      · cases z : F.hp q with
        | none => rfl
        | some o =>
          have nA : ¬ A q := by
            rintro ⟨i, c, xs, w1, w2, w3⟩
            obtain ⟨p, us, k1, k2, k3, k4, _⟩ := R1.own i c xs w2
            cases k1.inj w3
            rw [k4] at z; cases z
          rw [pf q o (R1.fg q o z) nA (R1.fh q o z)] at h4; cases h4
      · obtain ⟨p, us', z1, z2, z3, z4, z5, z6, z7, z8⟩ := own3 i b ys o1
        cases z1.inj o2
        rcases z8 with ⟨j, c, zs, y1, y2⟩ | z8
        · exact h6 j c zs (at_map.mpr y1) (at_map.mpr y2)
        · exact z8 h4
end M
namespace M
open PySem PySem.Spec PyProof.Rows L2
def iiD (C : Int → Int → Bool) (f : Int → Int → Int) : D → D → Option RV
  | .int i, .int j => if C i j then some (.d (.int (f i j))) else none
  | _, _ => none
theorem iiD_inv {C : Int → Int → Bool} {f : Int → Int → Int} {a b : D} {z : RV} (h : iiD C f a b = some z) : ∃ i j, a = .int i ∧ b = .int j ∧ C i j = true ∧ z = .d (.int (f i j)) := by
  unfold iiD at h
  split at h
  · split at h
    · cases h; exact ⟨_, _, rfl, rfl, by assumption, rfl⟩
    · cases h
  · cases h
theorem opd_ii {K : PySem.W.Frag} {C : Int → Int → Bool} {C' : Int → Int → Prop} {f : Int → Int → Int} (hC : ∀ i j, C i j = true → C' i j) : OpD K (rI C' fun i j => .int (f i j)) (iiD C f) := by
  intro G H x y dx dy z s hx hy e Q k
  obtain ⟨i, j, rfl, rfl, c, rfl⟩ := iiD_inv e
  exact ⟨i, j, hx.int, hy.int, hC i j c, k _ _ (.same rfl)⟩
theorem opd_ii0 {K : PySem.W.Frag} {f : Int → Int → Int} : OpD K (rI0 fun i j => .int (f i j)) (iiD (fun _ _ => true) f) := by
  intro G H x y dx dy z s hx hy e Q k
  obtain ⟨i, j, rfl, rfl, c, rfl⟩ := iiD_inv e
  exact ⟨i, j, hx.int, hy.int, k _ _ (.same rfl)⟩
def ibD (f : Int → Int → Bool) : D → D → Option RV
  | .int i, .int j => some (.d (.bl (f i j)))
  | _, _ => none
theorem opd_ib {K : PySem.W.Frag} {f : Int → Int → Bool} : OpD K (rI0 fun i j => .bl (f i j)) (ibD f) := by
  intro G H x y dx dy z s hx hy e Q k
  unfold ibD at e
  split at e
  · cases e
    exact ⟨_, _, hx.int, hy.int, k _ _ (.same rfl)⟩
  · cases e
def addS : D → D → Option RV
  | .str a, .str b => if a.length + b.length ≤ 16777216 then some (.d (.str (a ++ b))) else none
  | _, _ => none
theorem str_app (a b : List Nat) : (⟨a.toArray⟩ : Str) ++ (⟨b.toArray⟩ : Str) = ⟨(a ++ b).toArray⟩ := by
  show Str.append _ _ = _
  unfold Str.append
  simp
theorem opd_addS {K : PySem.W.Frag} : OpD K (fun x y H Q => ∃ i j, x = V.str i ∧ y = .str j ∧ i.length + j.length ≤ sizeLine ∧ Q (.str (i ++ j)) H) addS := by
  intro G H x y dx dy z s hx hy e Q k
  unfold addS at e
  split at e
  · split at e
    · rename_i a b hl
      cases e
      refine ⟨_, _, hx.str, hy.str, ?_, ?_⟩
      · rw [sizeLine_num]; simpa [Str.length] using hl
      · rw [str_app]; exact k _ _ (.same rfl)
    · cases e
  · cases e
def addL : D → D → Option RV
  | .lst a, .lst b => if a.length + b.length ≤ 16777216 then some (.own (a ++ b)) else none
  | _, _ => none
theorem opd_addL {K : PySem.W.Frag} : OpD K rCat addL := by
  intro G H x y dx dy z s hx hy e Q k
  unfold addL at e
  split at e
  · split at e
    · rename_i a b hl
      cases e
      obtain ⟨p, vs, e1, e2, e3⟩ := hx.lst s
      obtain ⟨q, us, f1, f2, f3⟩ := hy.lst s
      exact ⟨p, q, vs, us, e1, f1, e2, f2, by rw [sizeLine_num, e3.length, f3.length]; exact hl, fun l hl => k _ _ (.lst hl (e3.append f3))⟩
    · cases e
  · cases e
theorem RO.rdT {K : PySem.W.Frag} {G H : Hp} {ds : List D} {v : V} (h : RO K G H (.tup ds) v) : RD K G (.tup ds) v := by
  rcases h with h | ⟨ds', p, vs, h0, h1, h2, h3⟩
  · exact h
  · cases h0
def addT : D → D → Option RV
  | .tup a, .tup b => if a.length + b.length ≤ 16777216 then some (.d (.tup (a ++ b))) else none
  | _, _ => none
theorem opd_addT {K : PySem.W.Frag} : OpD K (rCatA K) addT := by
  intro G H x y dx dy z s hx hy e Q k
  unfold addT at e
  split at e
  · split at e
    · rename_i a b hl
      cases e
      obtain ⟨p, vs, e1, e2, e3⟩ := hx.tup s
      obtain ⟨q, us, f1, f2, f3⟩ := hy.tup s
      refine ⟨p, q, vs, us, e1, f1, e2, f2, by rw [sizeLine_num, e3.length, f3.length]; exact hl, fun z => ?_, fun _ z => ?_, fun _ _ l hl => k _ _ (.tup hl (e3.append f3))⟩
      · have : a = [] := by
          have := e3.length
          rw [z] at this
          exact List.eq_nil_of_length_eq_zero this.symm
        subst this
        rw [← f1]
        exact k _ _ (.same hy.rdT)
      · have : b = [] := by
          have := f3.length
          rw [z] at this
          exact List.eq_nil_of_length_eq_zero this.symm
        subst this
        rw [List.append_nil] at k
        rw [← e1]
        exact k _ _ (.same hx.rdT)
    · cases e
  · cases e
def addD : D → D → Option RV
  | .int i, .int j => some (.d (.int (i + j)))
  | .str a, .str b => if a.length + b.length ≤ 16777216 then some (.d (.str (a ++ b))) else none
  | .lst a, .lst b => if a.length + b.length ≤ 16777216 then some (.own (a ++ b)) else none
  | .tup a, .tup b => if a.length + b.length ≤ 16777216 then some (.d (.tup (a ++ b))) else none
  | _, _ => none
theorem OpD.of {K : PySem.W.Frag} {r : R2} {g g' : D → D → Option RV} (h : OpD K r g) (e : ∀ a b z, g' a b = some z → g a b = some z) : OpD K r g' := fun G H x y dx dy z s hx hy q Q k => h G H x y dx dy z s hx hy (e dx dy z q) Q k
theorem FnD.of {K : PySem.W.Frag} {r : List V → Hp → VK → Prop} {g g' : List D → Option RV} (h : FnD K r g) (e : ∀ a z, g' a = some z → g a = some z) : FnD K r g' := fun G H x dx z s hx q Q k => h G H x dx z s hx (e dx z q) Q k
section
variable {X : Cx} {a b : Expr} {fa fb : Ex} {pos : Pos}
theorem ev_add (ha : PEv X a fa) (hb : PEv X b fb) : PEv X (.BinOp a .Add b pos) (bOp addD fa fb) :=
  ev_op (OpR.or op_add (OpR.or op_add_str (OpR.or op_cat op_catA))) (OpD.of (OpD.or opd_ii0 (OpD.or opd_addS (OpD.or opd_addL opd_addT))) fun x y z h => by
    unfold addD at h
    split at h
    · cases h; rfl
    · exact (by unfold addS; simp only [iiD]; split at h <;> simp_all)
    · exact (by unfold addS addL; simp only [iiD]; split at h <;> simp_all)
    · exact (by unfold addS addL addT; simp only [iiD]; split at h <;> simp_all)
    · cases h) ha hb
def subD : D → D → Option RV := iiD (fun _ _ => true) fun i j => i - j
theorem ev_sub (ha : PEv X a fa) (hb : PEv X b fb) : PEv X (.BinOp a .Sub b pos) (bOp subD fa fb) := ev_op op_sub opd_ii0 ha hb
def mulC (i j : Int) : Bool := decide ((-(2 ^ 64) < i ∧ i < 2 ^ 64) ∨ (-(2 ^ 64) < j ∧ j < 2 ^ 64))
def mulD : D → D → Option RV := iiD mulC fun i j => i * j
theorem ev_mul (ha : PEv X a fa) (hb : PEv X b fb) : PEv X (.BinOp a .Mult b pos) (bOp mulD fa fb) := ev_op op_mul (opd_ii fun i j h => by unfold mulC at h; have h1 := of_decide_eq_true h; exact h1) ha hb
def fdivC (i j : Int) : Bool := decide (0 < j ∧ j < 1073741824)
def fdivD : D → D → Option RV := iiD fdivC fun i j => i / j
theorem ev_fdiv (ha : PEv X a fa) (hb : PEv X b fb) : PEv X (.BinOp a .FloorDiv b pos) (bOp fdivD fa fb) := ev_op op_fdiv (opd_ii fun i j h => by unfold fdivC at h; have h1 := of_decide_eq_true h; exact h1) ha hb
def modC (i j : Int) : Bool := decide (0 < j)
def modD : D → D → Option RV := iiD modC fun i j => i % j
theorem ev_mod (ha : PEv X a fa) (hb : PEv X b fb) : PEv X (.BinOp a .Mod b pos) (bOp modD fa fb) := ev_op op_mod (opd_ii fun i j h => of_decide_eq_true h) ha hb
def powC (i j : Int) : Bool := decide (0 ≤ j ∧ j ≤ 1000000 ∧ i.natAbs < 2 ^ 64)
def powD : D → D → Option RV := iiD powC fun i j => i ^ j.toNat
theorem ev_pow (ha : PEv X a fa) (hb : PEv X b fb) : PEv X (.BinOp a .Pow b pos) (bOp powD fa fb) := ev_op op_pow (opd_ii fun i j h => by unfold powC at h; have h1 := of_decide_eq_true h; exact h1) ha hb
def negD : D → Option RV
  | .int i => some (.d (.int (-i)))
  | _ => none
theorem ev_neg (ha : PEv X a fa) : PEv X (.UnaryOp .USub a pos) (bUn negD fa) := ev_un un_neg (fun G H x dx z s hx e Q k => by
  unfold negD at e
  split at e
  · cases e; exact ⟨_, hx.int, k _ _ (.same rfl)⟩
  · cases e) ha
end
def ltD : D → D → Option RV := ibD fun i j => decide (i < j)
def leD : D → D → Option RV := ibD fun i j => decide (i ≤ j)
def gtD : D → D → Option RV := ibD fun i j => decide (j < i)
def geD : D → D → Option RV := ibD fun i j => decide (j ≤ i)
mutual
def D.py : D → PyData
  | .non => .none
  | .bl b => .bool b
  | .int i => .int i
  | .str s => .str ⟨s.toArray⟩
  | .lst xs => .list (pys xs)
  | .tup xs => .tuple (pys xs)
  | .scr xs => .list (pys xs)
  | .ins _ _ _ => .none
  | .ptr _ => .none
def pys : List D → List PyData
  | [] => []
  | x :: xs => D.py x :: pys xs
end
mutual
def D.ok : D → Bool
  | .non => true
  | .bl _ => true
  | .int _ => true
  | .str s => s.all (· < 1114112)
  | .lst xs => oks xs
  | .tup xs => oks xs
  | .scr xs => oks xs
  | .ins _ _ _ => false
  | .ptr _ => false
def oks : List D → Bool
  | [] => true
  | x :: xs => D.ok x && oks xs
end
mutual
def D.dep : D → Nat
  | .lst xs => deps xs + 1
  | .tup xs => deps xs + 1
  | .scr xs => deps xs + 1
  | _ => 0
def deps : List D → Nat
  | [] => 0
  | x :: xs => max (D.dep x) (deps xs)
end
def okD (d : D) : Bool := d.ok && decide (d.dep ≤ 64)
mutual
theorem py_lay : ∀ d : D, d.ok = true → d.py.canLay0 = true
  | .non, _ => rfl
  | .bl _, _ => rfl
  | .int _, _ => rfl
  | .str s, h => by
    show PyData.strOk _ = true
    unfold PyData.strOk
    simpa [D.ok] using h
  | .lst xs, h => pys_lay xs h
  | .tup xs, h => pys_lay xs h
  | .scr xs, h => pys_lay xs h
  | .ins _ _ _, h => by cases h
  | .ptr _, h => by cases h
theorem pys_lay : ∀ ds : List D, oks ds = true → PyData.canLayAll0 (pys ds) = true
  | [], _ => rfl
  | x :: xs, h => by
    have h' : x.ok = true ∧ oks xs = true := by simpa [oks] using h
    show (x.py.canLay0 && PyData.canLayAll0 (pys xs)) = true
    rw [py_lay x h'.1, pys_lay xs h'.2]; rfl
end
mutual
theorem py_dep : ∀ d : D, d.py.depth = d.dep
  | .non => rfl
  | .bl _ => rfl
  | .int _ => rfl
  | .str s => rfl
  | .lst xs => congrArg (· + 1) (pys_dep xs)
  | .tup xs => congrArg (· + 1) (pys_dep xs)
  | .scr xs => congrArg (· + 1) (pys_dep xs)
  | .ins _ _ _ => rfl
  | .ptr _ => rfl
theorem pys_dep : ∀ ds : List D, PyData.depthAll (pys ds) = deps ds
  | [] => rfl
  | x :: xs => by
    show max x.py.depth (PyData.depthAll (pys xs)) = max x.dep (deps xs)
    rw [py_dep x, pys_dep xs]
end
theorem okD_shaped {d : D} (h : okD d = true) : SeqAt.shaped d.py = true := by
  unfold okD at h
  simp only [Bool.and_eq_true, decide_eq_true_eq] at h
  unfold SeqAt.shaped
  rw [py_lay d h.1, py_dep, decide_eq_true h.2]; rfl
mutual
theorem rd_dp {K : PySem.W.Frag} {H : Hp} : ∀ (d : D) (v : V), d.ok = true → RD K H d v → Dp K H v d.py
  | .non, v, _, h => by cases h; exact .non
  | .bl b, v, _, h => by cases h; exact .bl b
  | .int i, v, _, h => by cases h; exact .int i
  | .str s, v, _, h => by cases h; exact .str _
  | .lst ds, v, o, ⟨a, xs, e1, e2, e3⟩ => by subst e1; exact .lst (SqL.of e2) (rds_dp ds xs o e3)
  | .tup ds, v, o, ⟨a, xs, e1, e2, e3⟩ => by subst e1; exact .tup e2 (rds_dp ds xs o e3)
  | .scr ds, v, o, ⟨a, xs, e1, e2, e3⟩ => by subst e1; exact .lst e2 (rds_dp ds xs o e3)
  | .ins C ns ds, v, o, _ => by cases o
  | .ptr u, v, o, _ => by cases o
theorem rds_dp {K : PySem.W.Frag} {H : Hp} : ∀ (ds : List D) (vs : List V), oks ds = true → RDs K H ds vs → DpAll K H vs (pys ds)
  | [], vs, _, h => by cases h; exact .nil
  | d :: ds, vs, o, ⟨x, xs, e1, e2, e3⟩ => by
    have o' : d.ok = true ∧ oks ds = true := by simpa [oks] using o
    subst e1
    exact .cons (rd_dp d x o'.1 e2) (rds_dp ds xs o'.2 e3)
end
def eqB : D → D → Option Bool
  | .non, .non => some true
  | .int i, .int j => some (decide (i = j))
  | .str a, .str b => some (decide (a = b))
  | .bl a, .bl b => some (decide (a = b))
  | .non, .str _ => some false
  | .str _, .non => some false
  | .lst a, .lst b => if okD (.lst a) && okD (.lst b) then some (PyData.eqv (D.lst a).py (D.lst b).py) else none
  | .tup a, .tup b => if okD (.tup a) && okD (.tup b) then some (PyData.eqv (D.tup a).py (D.tup b).py) else none
  | _, _ => none
def eqD (a b : D) : Option RV := (eqB a b).map fun c => .d (.bl c)
def neD (a b : D) : Option RV := (eqB a b).map fun c => .d (.bl (!c))
theorem str_dec (a b : List Nat) : decide ((V.str ⟨a.toArray⟩) = V.str ⟨b.toArray⟩) = decide (a = b) := by
  by_cases h : a = b
  · subst h; simp
  · rw [decide_eq_false h, decide_eq_false]
    intro z
    injection z with z
    injection z with z
    exact h (by simpa using z)
theorem eq_core {K : PySem.W.Frag} {G H : Hp} {x y : V} {dx dy : D} {c : Bool} (s : Same G H) (hx : RO K G H dx x) (hy : RO K G H dy y) (e : eqB dx dy = some c) :
    (scal x y = true ∧ decide (x = y) = c) ∨ (∃ d e, Dp K H x d ∧ Dp K H y e ∧ SeqAt.shaped d = true ∧ SeqAt.shaped e = true ∧ PyData.eqv d e = c) := by
  unfold eqB at e
  split at e
  · cases e; rw [hx.non, hy.non]; exact .inl ⟨rfl, rfl⟩
  · cases e; rw [hx.int, hy.int]; exact .inl ⟨rfl, by simp⟩
  · cases e; rw [hx.str, hy.str]; exact .inl ⟨rfl, str_dec _ _⟩
  · cases e; rw [hx.bl, hy.bl]; exact .inl ⟨rfl, by simp⟩
  · cases e; rw [hx.non, hy.str]; exact .inl ⟨rfl, rfl⟩
  · cases e; rw [hx.str, hy.non]; exact .inl ⟨rfl, rfl⟩
  · split at e
    · rename_i h
      cases e
      simp only [Bool.and_eq_true] at h
      have o1 := h.1
      have o2 := h.2
      unfold okD at o1 o2
      simp only [Bool.and_eq_true] at o1 o2
      exact .inr ⟨_, _, rd_dp _ _ o1.1 (hx.rd s), rd_dp _ _ o2.1 (hy.rd s), okD_shaped h.1, okD_shaped h.2, rfl⟩
    · cases e
  · split at e
    · rename_i h
      cases e
      simp only [Bool.and_eq_true] at h
      have o1 := h.1
      have o2 := h.2
      unfold okD at o1 o2
      simp only [Bool.and_eq_true] at o1 o2
      exact .inr ⟨_, _, rd_dp _ _ o1.1 (hx.rd s), rd_dp _ _ o2.1 (hy.rd s), okD_shaped h.1, okD_shaped h.2, rfl⟩
    · cases e
  · cases e
theorem opd_eq {K : PySem.W.Frag} : OpD K (fun x y H Q => rEq x y H Q ∨ rEqD K x y H Q) eqD := by
  intro G H x y dx dy z s hx hy e Q k
  obtain ⟨c, e1, e2⟩ := Option.map_eq_some_iff.mp e
  subst e2
  rcases eq_core s hx hy e1 with ⟨h1, h2⟩ | ⟨d, e, h1, h2, h3, h4, h5⟩
  · exact .inl ⟨h1, by rw [h2]; exact k _ _ (.same rfl)⟩
  · exact .inr ⟨d, e, h1, h2, h3, h4, by rw [h5]; exact k _ _ (.same rfl)⟩
theorem opd_ne {K : PySem.W.Frag} : OpD K (fun x y H Q => rNe x y H Q ∨ rNeD K x y H Q) neD := by
  intro G H x y dx dy z s hx hy e Q k
  obtain ⟨c, e1, e2⟩ := Option.map_eq_some_iff.mp e
  subst e2
  rcases eq_core s hx hy e1 with ⟨h1, h2⟩ | ⟨d, e, h1, h2, h3, h4, h5⟩
  · exact .inl ⟨h1, by rw [h2]; exact k _ _ (.same rfl)⟩
  · exact .inr ⟨d, e, h1, h2, h3, h4, by rw [h5]; exact k _ _ (.same rfl)⟩
def isB : D → D → Option Bool
  | .non, .non => some true
  | .bl a, .bl b => some (decide (a = b))
  | .int _, .non => some false
  | .str _, .non => some false
  | .bl _, .non => some false
  | .lst _, .non => some false
  | .tup _, .non => some false
  | .ins _ _ _, .non => some false
  | _, _ => none
def isD (a b : D) : Option RV := (isB a b).map fun c => .d (.bl c)
def isnD (a b : D) : Option RV := (isB a b).map fun c => .d (.bl (!c))
def rIsX : R2 := fun x y H Q => (y = .non ∧ Q (.bl (decide (x = .non))) H) ∨ (∃ a b : Bool, x = .bl a ∧ y = .bl b ∧ Q (.bl (decide (a = b))) H)
theorem is_core {K : PySem.W.Frag} {G H : Hp} {x y : V} {dx dy : D} {c : Bool} (s : Same G H) (hx : RO K G H dx x) (hy : RO K G H dy y) (e : isB dx dy = some c) :
    (y = .non ∧ decide (x = .non) = c) ∨ (∃ a b : Bool, x = .bl a ∧ y = .bl b ∧ decide (a = b) = c) := by
  unfold isB at e
  split at e
  · cases e; exact .inl ⟨hy.non, by rw [hx.non]; rfl⟩
  · cases e; exact .inr ⟨_, _, hx.bl, hy.bl, rfl⟩
  · cases e; exact .inl ⟨hy.non, by rw [hx.int]; rfl⟩
  · cases e; exact .inl ⟨hy.non, by rw [hx.str]; rfl⟩
  · cases e; exact .inl ⟨hy.non, by rw [hx.bl]; rfl⟩
  · cases e
    obtain ⟨p, vs, e1, _⟩ := hx.lst s
    exact .inl ⟨hy.non, by rw [e1]; rfl⟩
  · cases e
    obtain ⟨p, vs, e1, _⟩ := hx.tup s
    exact .inl ⟨hy.non, by rw [e1]; rfl⟩
  · cases e
    obtain ⟨a, C, dx, fs, e1, _⟩ := hx.rd s
    exact .inl ⟨hy.non, by rw [e1]; rfl⟩
  · cases e
end M
namespace M
open PySem PySem.Spec PyProof.Rows L2
section
variable {X : Cx} {a b c e : Expr} {es : List Expr} {fa fb fc : Ex} {fs : Ax} {pos : Pos}
def rIsOr : R2 := fun x y H Q => (y = .non ∧ Q (.bl (decide (x = .non))) H) ∨ rIsB x y H Q
def rIsnOr : R2 := fun x y H Q => (y = .non ∧ Q (.bl (!decide (x = .non))) H) ∨ rNotB x y H Q
theorem opd_is {K : PySem.W.Frag} : OpD K rIsOr isD := by
  intro G H x y dx dy z s hx hy e Q k
  obtain ⟨c, e1, e2⟩ := Option.map_eq_some_iff.mp e
  subst e2
  rcases is_core s hx hy e1 with ⟨h1, h2⟩ | ⟨a, b, h1, h2, h3⟩
  · exact .inl ⟨h1, by rw [h2]; exact k _ _ (.same rfl)⟩
  · exact .inr ⟨a, b, h1, h2, by rw [h3]; exact k _ _ (.same rfl)⟩
theorem opd_isn {K : PySem.W.Frag} : OpD K rIsnOr isnD := by
  intro G H x y dx dy z s hx hy e Q k
  obtain ⟨c, e1, e2⟩ := Option.map_eq_some_iff.mp e
  subst e2
  rcases is_core s hx hy e1 with ⟨h1, h2⟩ | ⟨a, b, h1, h2, h3⟩
  · exact .inl ⟨h1, by rw [h2]; exact k _ _ (.same rfl)⟩
  · exact .inr ⟨a, b, h1, h2, by rw [h3]; exact k _ _ (.same rfl)⟩
theorem op_isX : OpR X (compareOp .Is) rIsOr := OpR.or op_isN op_isBl
theorem op_isnX : OpR X (compareOp .IsNot) rIsnOr := OpR.or op_notN op_notBl
def flatD : D → Bool
  | .non => true
  | .bl _ => true
  | .int _ => true
  | .str _ => true
  | _ => false
def toV : D → V
  | .non => .non
  | .bl b => .bl b
  | .int i => .int i
  | .str s => .str ⟨s.toArray⟩
  | _ => .non
theorem rd_flat {K : PySem.W.Frag} {H : Hp} {d : D} {v : V} (h : flatD d = true) (r : RD K H d v) : v = toV d ∧ flatV v = true := by
  cases d with
  | non => cases r; exact ⟨rfl, rfl⟩
  | bl b => cases r; exact ⟨rfl, rfl⟩
  | int i => cases r; exact ⟨rfl, rfl⟩
  | str s => cases r; exact ⟨rfl, rfl⟩
  | _ => cases h
theorem rds_flat {K : PySem.W.Frag} {H : Hp} : ∀ {ds : List D} {vs : List V}, ds.all flatD = true → RDs K H ds vs → vs = ds.map toV ∧ vs.all flatV = true
  | [], vs, _, h => by cases h; exact ⟨rfl, rfl⟩
  | d :: ds, vs, h, ⟨x, xs, e1, e2, e3⟩ => by
    have h' : flatD d = true ∧ ds.all flatD = true := by simpa using h
    obtain ⟨g1, g2⟩ := rd_flat h'.1 e2
    obtain ⟨g3, g4⟩ := rds_flat h'.2 e3
    subst e1
    exact ⟨by rw [g1, g3]; rfl, by simp [g2, g4]⟩
def memB (x : D) (xs : List D) : Bool := inV (toV x) (xs.map toV)
def inB : D → D → Option Bool
  | .str [c], .str s => some (decide (c ∈ s))
  | x, .tup xs => if flatD x && xs.all flatD then some (memB x xs) else none
  | x, .lst xs => if flatD x && xs.all flatD then some (memB x xs) else none
  | _, _ => none
def inD (a b : D) : Option RV := (inB a b).map fun c => .d (.bl c)
def ninD (a b : D) : Option RV := (inB a b).map fun c => .d (.bl (!c))
theorem in_core {K : PySem.W.Frag} {G H : Hp} {x y : V} {dx dy : D} {k : Bool} (s : Same G H) (hx : RO K G H dx x) (hy : RO K G H dy y) (e : inB dx dy = some k) :
    (∃ (c : Nat) (z : Str), x = .str ⟨#[c]⟩ ∧ y = .str z ∧ decide (c ∈ z.cps.toList) = k) ∨ (∃ p xs, y = .ref p ∧ (SqL K H p xs ∨ SqT K H p xs) ∧ flatV x = true ∧ xs.all flatV = true ∧ inV x xs = k) := by
  unfold inB at e
  split at e
  · rename_i c s'
    cases e
    exact .inl ⟨c, ⟨s'.toArray⟩, hx.str, hy.str, by simp⟩
  · split at e
    · rename_i xs h
      cases e
      simp only [Bool.and_eq_true] at h
      obtain ⟨p, vs, e1, e2, e3⟩ := hy.tup s
      obtain ⟨g1, g2⟩ := rd_flat h.1 (hx.rd s)
      obtain ⟨g3, g4⟩ := rds_flat h.2 e3
      exact .inr ⟨p, vs, e1, .inr e2, g2, g4, by rw [g1, g3]; rfl⟩
    · cases e
  · split at e
    · rename_i xs h
      cases e
      simp only [Bool.and_eq_true] at h
      obtain ⟨p, vs, e1, e2, e3⟩ := hy.lst s
      obtain ⟨g1, g2⟩ := rd_flat h.1 (hx.rd s)
      obtain ⟨g3, g4⟩ := rds_flat h.2 e3
      exact .inr ⟨p, vs, e1, .inl (SqL.of e2), g2, g4, by rw [g1, g3]; rfl⟩
    · cases e
  · cases e
theorem opd_in {K : PySem.W.Frag} : OpD K (fun x y H Q => (∃ (c : Nat) (z : Str), x = .str ⟨#[c]⟩ ∧ y = .str z ∧ Q (.bl (decide (c ∈ z.cps.toList))) H) ∨ rIn K false x y H Q) inD := by
  intro G H x y dx dy z s hx hy e Q k
  obtain ⟨c, e1, e2⟩ := Option.map_eq_some_iff.mp e
  subst e2
  rcases in_core s hx hy e1 with ⟨c', z, h1, h2, h3⟩ | ⟨p, xs, h1, h2, h3, h4, h5⟩
  · exact .inl ⟨c', z, h1, h2, by rw [h3]; exact k _ _ (.same rfl)⟩
  · exact .inr ⟨p, xs, h1, h2, h3, h4, by rw [h5]; exact k _ _ (.same rfl)⟩
theorem opd_nin {K : PySem.W.Frag} : OpD K (fun x y H Q => (∃ (c : Nat) (z : Str), x = .str ⟨#[c]⟩ ∧ y = .str z ∧ Q (.bl (!decide (c ∈ z.cps.toList))) H) ∨ rIn K true x y H Q) ninD := by
  intro G H x y dx dy z s hx hy e Q k
  obtain ⟨c, e1, e2⟩ := Option.map_eq_some_iff.mp e
  subst e2
  rcases in_core s hx hy e1 with ⟨c', z, h1, h2, h3⟩ | ⟨p, xs, h1, h2, h3, h4, h5⟩
  · exact .inl ⟨c', z, h1, h2, by rw [h3]; exact k _ _ (.same rfl)⟩
  · exact .inr ⟨p, xs, h1, h2, h3, h4, by rw [h5]; exact k _ _ (.same rfl)⟩
theorem op_inX : OpR X (compareOp .In) (fun x y H Q => (∃ (c : Nat) (z : Str), x = .str ⟨#[c]⟩ ∧ y = .str z ∧ Q (.bl (decide (c ∈ z.cps.toList))) H) ∨ rIn X.K false x y H Q) := OpR.or op_in_sign op_in_seq
theorem op_ninX : OpR X (compareOp .NotIn) (fun x y H Q => (∃ (c : Nat) (z : Str), x = .str ⟨#[c]⟩ ∧ y = .str z ∧ Q (.bl (!decide (c ∈ z.cps.toList))) H) ∨ rIn X.K true x y H Q) := OpR.or op_notIn_sign op_notIn_seq
theorem op_eqX (hu : X.A.units + 64 < cLine) : OpR X (compareOp .Eq) (fun x y H Q => rEq x y H Q ∨ rEqD X.K x y H Q) := OpR.or op_eq (op_eqD hu)
theorem op_neX (hu : X.A.units + 64 < cLine) : OpR X (compareOp .NotEq) (fun x y H Q => rNe x y H Q ∨ rNeD X.K x y H Q) := OpR.or op_ne (op_neD hu)
def bChain (g g' : D → D → Option RV) (fa fb fc : Ex) : Ex := fun ρ => match fa ρ with
  | some (.d x, ρ1) => match fb ρ1 with
    | some (.d y, ρ2) => match g x y with
      | some (.d (.bl true)) => match fc ρ2 with
        | some (.d z, ρ3) => (g' y z).map fun r => (r, ρ3)
        | _ => none
      | some (.d (.bl false)) => some (.d (.bl false), ρ2)
      | _ => none
    | _ => none
  | _ => none
theorem read_chain {K : PySem.W.Frag} {g g' : D → D → Option RV} {r r' : R2} (hg : OpD K r g) (hg' : OpD K r' g') {σ : Sg} {H : Hp} {Q : VK} (h : tE K (bChain g g' fa fb fc) σ H Q) : tChain r r' (tE K fa) (tE K fb) (tE K fc) σ H Q := by
  obtain ⟨F, G, ρ, z, ρ', R, e, k⟩ := h
  unfold bChain at e
  split at e
  rotate_left
  · cases e
  rename_i dx ρ1 e1
  split at e
  rotate_left
  · cases e
  rename_i dy ρ2 e2
  refine ⟨F, G, ρ, _, ρ1, R, e1, fun x G1 H1 s1 R1 q1 => ⟨F, G1, ρ1, _, ρ2, R1, e2, fun y G2 H2 s2 R2 q2 => ?_⟩⟩
  have rx : RO K G2 H2 dx x := .inl (RD.mono s2 _ _ q1)
  have ry : RO K G2 H2 dy y := .inl q2
  split at e
  · rename_i e3
    refine hg G2 H2 x y dx dy _ R2.gh rx ry e3 _ fun v H3 hz => ?_
    cases hz with
    | same hv =>
      refine ⟨true, hv, iteT ?_⟩
      split at e
      rotate_left
      · cases e
      rename_i dz ρ3 e4
      obtain ⟨z', ez, eq⟩ := Option.map_eq_some_iff.mp e
      cases eq
      refine ⟨F, G2, ρ2, _, _, R2, e4, fun w G4 H4 s4 R4 q4 => ?_⟩
      refine hg' G4 H4 y w dy dz _ R4.gh (.inl (RD.mono s4 _ _ q2)) (.inl q4) ez Q fun u H5 hz => ?_
      obtain ⟨G5, t5, R5, q5⟩ := rz_done R4 hz
      exact k u G5 H5 (((s1.trans s2).trans s4).trans t5) R5 q5
  · rename_i e3
    cases e
    refine hg G2 H2 x y dx dy _ R2.gh rx ry e3 _ fun v H3 hz => ?_
    cases hz with
    | same hv => exact ⟨false, hv, iteF (k _ G2 H2 (s1.trans s2) R2 rfl)⟩
  · cases e
theorem ev_chain {op op' : CmpOp} {r r' : R2} {g g' : D → D → Option RV} (ho : OpR X (compareOp op) r) (ho' : OpR X (compareOp op') r') (hg : OpD X.K r g) (hg' : OpD X.K r' g') (ha : PEv X a fa) (hb : PEv X b fb) (hc : PEv X c fc)
    (hm : lastMarks [op, op'] [b, c] = false := by with_unfolding_all rfl) : PEv X (.Compare a [op, op'] [b, c] pos) (bChain g g' fa fb fc) := PE.imp (pe_chain ho ho' ha hb hc hm) fun σ H Q h => read_chain hg hg' h
theorem tv_chain {op op' : CmpOp} {r r' : R2} {g g' : D → D → Option RV} (ho : OpR X (compareOp op) r) (ho' : OpR X (compareOp op') r') (hg : OpD X.K r g) (hg' : OpD X.K r' g') (ha : PEv X a fa) (hb : PEv X b fb) (hc : PEv X c fc)
    (hm : lastMarks [op, op'] [b, c] = false := by with_unfolding_all rfl) : PTv X (.Compare a [op, op'] [b, c] pos) (bT (bChain g g' fa fb fc)) := PT.imp (pt_chain ho ho' ha hb hc hm) fun σ H Q h => by
  exact read_chain hg hg' (Q := fun x H1 => ∃ c, x = .bl c ∧ Q c H1) (readT h)
def ixD : D → D → Option RV
  | .lst xs, .int i => (atI xs i).map .d
  | .tup xs, .int i => (atI xs i).map .d
  | .scr xs, .int i => (atI xs i).map .d
  | .str s, .int i => if s.length ≤ 16777216 then (atI s i).map fun c => .d (.str [c]) else none
  | _, _ => none
theorem atI_rds {K : PySem.W.Frag} {G : Hp} {ds : List D} {vs : List V} {i : Int} {d : D} (h : RDs K G ds vs) (e : atI ds i = some d) : ∃ v, atI vs i = some v ∧ RD K G d v := by
  unfold atI at *
  obtain ⟨j, h1, h2⟩ := Option.bind_eq_some_iff.mp e
  obtain ⟨v, h3, h4⟩ := h.get h2
  exact ⟨v, Option.bind_eq_some_iff.mpr ⟨j, by rw [h.length]; exact h1, h3⟩, h4⟩
theorem opd_ix {K : PySem.W.Frag} : OpD K (rIx K) ixD := by
  intro G H x y dx dy z s hx hy e Q k
  unfold ixD at e
  split at e
  · obtain ⟨d, e1, e2⟩ := Option.map_eq_some_iff.mp e
    subst e2
    obtain ⟨p, vs, f1, f2, f3⟩ := hx.lst s
    obtain ⟨v, g1, g2⟩ := atI_rds f3 e1
    exact .inl ⟨p, vs, _, v, f1, hy.int, SqL.of f2, g1, k _ _ (.same g2)⟩
  · obtain ⟨d, e1, e2⟩ := Option.map_eq_some_iff.mp e
    subst e2
    obtain ⟨p, vs, f1, f2, f3⟩ := hx.tup s
    obtain ⟨v, g1, g2⟩ := atI_rds f3 e1
    exact .inr (.inl ⟨p, vs, _, v, f1, hy.int, f2, g1, k _ _ (.same g2)⟩)
  · obtain ⟨d, e1, e2⟩ := Option.map_eq_some_iff.mp e
    subst e2
    obtain ⟨p, vs, f1, f2, f3⟩ := hx.scr s
    obtain ⟨v, g1, g2⟩ := atI_rds f3 e1
    exact .inl ⟨p, vs, _, v, f1, hy.int, f2, g1, k _ _ (.same g2)⟩
  · split at e
    rotate_left
    · cases e
    rename_i hl
    obtain ⟨c, e1, e2⟩ := Option.map_eq_some_iff.mp e
    subst e2
    exact .inr (.inr ⟨_, _, c, hx.str, hy.int, by rw [sizeLine_num]; simpa [Str.length] using hl, e1, k _ _ (.same rfl)⟩)
  · cases e
theorem ev_item (hs : PlainIx b) (ha : PEv X a fa) (hb : PEv X b fb) : PEv X (.Subscript a b pos) (bOp ixD fa fb) := ev_ix ix_seq opd_ix hs ha hb
abbrev Ox := Sl → Option (Option Int × Sl)
def oNone : Ox := fun ρ => some (none, ρ)
def oSome (f : Ex) : Ox := fun ρ => match f ρ with
  | some (.d (.int i), ρ1) => some (some i, ρ1)
  | _ => none
def tOx (K : PySem.W.Frag) (f : Ox) : TO := fun σ H Q => ∃ F G ρ r ρ', Rep K F G H σ ρ ∧ f ρ = some (r, ρ') ∧ ∀ G' H', Same G G' → Rep K F G' H' σ ρ' → Q r H'
def POv (X : Cx) (e : Option Expr) (f : Ox) : Prop := PO X e (tOx X.K f)
theorem ov_none : POv X none oNone := ⟨fun pins s σ H Q I h => by
  obtain ⟨F, G, ρ, r, ρ', R, e, k⟩ := h
  cases e
  exact po_none.run pins s σ H Q I (k G H (Same.refl G) R)⟩
theorem ov_some (h : PEv X e fa) : POv X (some e) (oSome fa) := ⟨fun pins s σ H Q I hw => by
  obtain ⟨F, G, ρ, r, ρ', R, q, k⟩ := hw
  unfold oSome at q
  split at q
  · rename_i i ρ1 e1
    cases q
    exact (po_some h).run pins s σ H Q I ⟨F, G, ρ, _, _, R, e1, fun v G1 H1 s1 R1 q1 => ⟨i, q1, k G1 H1 s1 R1⟩⟩
  · cases q⟩
def cutL {α : Type} (xs : List α) (lo hi : Option Int) : List α := (xs.drop (HT.sIx xs.length 0 lo)).take (HT.sIx xs.length xs.length hi - HT.sIx xs.length 0 lo)
def slD (x : D) (lo hi : Option Int) : Option RV := match x with
  | .lst xs => some (.own (cutL xs lo hi))
  | .scr xs => some (.own (cutL xs lo hi))
  | .tup xs => some (.d (.tup (cutL xs lo hi)))
  | .str s => if s.length ≤ 16777216 then some (.d (.str (cutL s lo hi))) else none
  | _ => none
def bSl (fa : Ex) (fl fh : Ox) : Ex := fun ρ => match fa ρ with
  | none => none
  | some (ra, ρ1) => match fl ρ1 with
    | none => none
    | some (lo, ρ2) => match fh ρ2 with
      | none => none
      | some (hi, ρ3) => match pk ρ3 ra.nrm with
        | none => none
        | some x => (slD x lo hi).map fun z => (z, ρ3)
theorem cut_rds {K : PySem.W.Frag} {G : Hp} {ds : List D} {vs : List V} (h : RDs K G ds vs) (lo hi : Option Int) : RDs K G (cutL ds lo hi) (cutV vs lo hi) := by
  unfold cutL cutV
  rw [h.length]
  exact (h.drop _).take _
def rSlX2 (K : PySem.W.Frag) : V → Option Int → Option Int → Hp → VK → Prop := fun x lo hi H Q => rSlL K x lo hi H Q ∨ (rSlA K x lo hi H Q ∨ rSlS x lo hi H Q)
theorem sl_all : SlR X (rSlX2 X.K) := SlR.or sl_list (SlR.or sl_tupA sl_str)
theorem sld {K : PySem.W.Frag} {G H : Hp} {x : V} {dx : D} {lo hi : Option Int} {z : RV} (s : Same G H) (hx : RO K G H dx x) (e : slD dx lo hi = some z) (Q : VK) (k : ∀ v H', RZ K G H z v H' → Q v H') : rSlX2 K x lo hi H Q := by
  unfold slD at e
  split at e
  · cases e
    obtain ⟨p, vs, f1, f2, f3⟩ := hx.lst s
    exact .inl ⟨p, vs, f1, SqL.of f2, fun q hq => k _ _ (.lst hq (cut_rds f3 lo hi))⟩
  · cases e
    obtain ⟨p, vs, f1, f2, f3⟩ := hx.scr s
    exact .inl ⟨p, vs, f1, f2, fun q hq => k _ _ (.lst hq (cut_rds f3 lo hi))⟩
  · cases e
    rename_i xs
    obtain ⟨p, vs, f1, f2, f3⟩ := hx.tup s
    refine .inr (.inl ⟨p, vs, f1, f2, fun hz => ?_, fun _ q hq => k _ _ (.tup hq (cut_rds f3 lo hi))⟩)
    have : cutL xs lo hi = xs := by
      unfold cutL
      rw [f3.length] at hz
      rw [hz.1, hz.2]; simp
    rw [this] at k
    rw [← f1]
    exact k _ _ (.same hx.rdT)
  · split at e
    rotate_left
    · cases e
    rename_i s' hl
    cases e
    refine .inr (.inr ⟨_, hx.str, by rw [sizeLine_num]; simpa [Str.length] using hl, ?_⟩)
    have : cutS ⟨s'.toArray⟩ lo hi = ⟨(cutL s' lo hi).toArray⟩ := by
      unfold cutS cutL
      simp [Str.length]
    rw [this]
    exact k _ _ (.same rfl)
  · cases e
theorem ev_slice {lo hi : Option Expr} {p2 : Pos} {fl fh : Ox} (ha : PEv X a fa) (hl : POv X lo fl) (hh : POv X hi fh) : PEv X (.Subscript a (.Slice lo hi none p2) pos) (bSl fa fl fh) := PE.imp (pe_slice sl_all ha hl hh) fun σ H Q h => by
  obtain ⟨F, G, ρ, r, ρ', R, q, k⟩ := h
  unfold bSl at q
  split at q
  · cases q
  rename_i ra ρ1 e1
  split at q
  · cases q
  rename_i lo' ρ2 e2
  split at q
  · cases q
  rename_i hi' ρ3 e3
  split at q
  · cases q
  rename_i x e4
  obtain ⟨z, ez, eq⟩ := Option.map_eq_some_iff.mp q
  cases eq
  refine ⟨F, G, ρ, ra, ρ1, R, e1, fun v G1 H1 s1 R1 q1 => ?_⟩
  obtain ⟨G1', t1, R1', n1⟩ := nrm_step R1 q1
  refine ⟨F, G1', ρ1, lo', ρ2, R1', e2, fun G2 H2 s2 R2 => ⟨F, G2, ρ2, hi', _, R2, e3, fun G3 H3 s3 R3 => ?_⟩⟩
  refine sld R3.gh (pk_ro R3 (n1.mono (s2.trans s3)) e4) ez Q fun w H4 hz => ?_
  obtain ⟨G4, t4, R4, q4⟩ := rz_done R3 hz
  exact k w G4 H4 ((((s1.trans t1).trans s2).trans s3).trans t4) R4 q4
def bTupE (fs : Ax) : Ex := fun ρ => match fs ρ with
  | none => none
  | some (rs, ρ1) => match dsOf rs with
    | none => none
    | some ds => if ds.length ≤ 16777216 then some (.d (.tup ds), ρ1) else none
def bLstE (fs : Ax) : Ex := fun ρ => match fs ρ with
  | none => none
  | some (rs, ρ1) => match dsOf rs with
    | none => none
    | some ds => if ds.length ≤ 16777216 then some (.own ds, ρ1) else none
theorem ev_tup {j : Nat} (h : PAv X es fs) (hp : PE X (.Tuple es j pos) (tTup (tAr X.K fs))) : PEv X (.Tuple es j pos) (bTupE fs) := PE.imp hp fun σ H Q h => by
  obtain ⟨F, G, ρ, r, ρ', R, q, k⟩ := h
  unfold bTupE at q
  split at q
  · cases q
  rename_i rs ρ1 e1
  split at q
  · cases q
  rename_i ds e2
  split at q
  rotate_left
  · cases q
  rename_i hl
  cases q
  refine ⟨F, G, ρ, rs, _, R, e1, fun vs G1 H1 s1 R1 q1 => ?_⟩
  have hr := ds_of q1 e2
  refine ⟨by rw [sizeLine_num, hr.length]; exact hl, fun p hp => ?_⟩
  obtain ⟨G2, t2, R2, q2⟩ := rz_done R1 (RZ.tup (G := G1) hp hr)
  exact k _ G2 _ (s1.trans t2) R2 q2
theorem ev_lst (h : PAv X es fs) (hp : PE X (.List es pos) (tLst (tAr X.K fs))) : PEv X (.List es pos) (bLstE fs) := PE.imp hp fun σ H Q h => by
  obtain ⟨F, G, ρ, r, ρ', R, q, k⟩ := h
  unfold bLstE at q
  split at q
  · cases q
  rename_i rs ρ1 e1
  split at q
  · cases q
  rename_i ds e2
  split at q
  rotate_left
  · cases q
  rename_i hl
  cases q
  refine ⟨F, G, ρ, rs, _, R, e1, fun vs G1 H1 s1 R1 q1 => ?_⟩
  have hr := ds_of q1 e2
  refine ⟨by rw [sizeLine_num, hr.length]; exact hl, fun p hp => ?_⟩
  obtain ⟨G2, t2, R2, q2⟩ := rz_done R1 (RZ.lst (G := G1) hp hr)
  exact k _ G2 _ (s1.trans t2) R2 q2
end
end M
namespace M
open PySem PySem.Spec PyProof.Rows L2 TL
section
variable {X : Cx} {a b c e : Expr} {es : List Expr} {fa fb fc : Ex} {fs : Ax} {pos p : Pos} {x : Str} {id : String}
theorem ev_fn {r : List V → Hp → VK → Prop} {g : List D → Option RV} (hc : CallR X (.builtin id) r) (hd : FnD X.K r g) (hg : Gl X x) (hm : X.mg x = none) (hv : bootBuiltins x = some (.builtin id)) (h : PAv X (e :: es) fs) (hn : x ≠ "__name__" := by decide) (hdb : (x == ("__debug__" : Str)) = false := by decide)
    (he : starEach (e :: es) X.env = (false, eval e X.env) :: starEach es X.env := by rfl) (hpl : (backTo pos (starEach es X.env)).any (·.1) = false := by rfl) : PEv X (.Call (.Name x p) (e :: es) [] pos) (bFn g fs) :=
  PE.imp (pe_callB hc hg hm hv h hn hdb he hpl) fun _ _ _ q => readA hd q
theorem ev_ty {T : String} {r : List V → Hp → VK → Prop} {g : List D → Option RV} (hc : CallR X (.type T) r) (hd : FnD X.K r g) (hg : Gl X x) (hm : X.mg x = none) (hv : bootBuiltins x = some (.type T)) (h : PAv X (e :: es) fs) (hn : x ≠ "__name__" := by decide) (hdb : (x == ("__debug__" : Str)) = false := by decide)
    (he : starEach (e :: es) X.env = (false, eval e X.env) :: starEach es X.env := by rfl) (hpl : (backTo pos (starEach es X.env)).any (·.1) = false := by rfl) : PEv X (.Call (.Name x p) (e :: es) [] pos) (bFn g fs) :=
  PE.imp (pe_callTy hc hg hm hv h hn hdb he hpl) fun _ _ _ q => readA hd q
end
theorem ros1 {K : PySem.W.Frag} {G H : Hp} {d : D} {vs : List V} (h : ROs K G H [d] vs) : ∃ v, vs = [v] ∧ RO K G H d v := by
  obtain ⟨x, xs, e1, e2, e3⟩ := h
  cases e3
  exact ⟨x, e1, e2⟩
theorem ros2 {K : PySem.W.Frag} {G H : Hp} {d d' : D} {vs : List V} (h : ROs K G H [d, d'] vs) : ∃ v w, vs = [v, w] ∧ RO K G H d v ∧ RO K G H d' w := by
  obtain ⟨x, xs, e1, e2, y, ys, e3, e4, e5⟩ := h
  cases e5
  subst e3
  exact ⟨x, y, e1, e2, e4⟩
def lenD : List D → Option RV
  | [.str s] => if s.length ≤ 16777216 then some (.d (.int s.length)) else none
  | [.lst xs] => some (.d (.int xs.length))
  | [.tup xs] => some (.d (.int xs.length))
  | [.scr xs] => some (.d (.int xs.length))
  | _ => none
theorem fnd_len {K : PySem.W.Frag} : FnD K (fun xs H Q => ∃ (x : V) (n : Nat), xs = [x] ∧ LenV K x H n ∧ Q (.int n) H) lenD := by
  intro G H xs ds z s hx e Q k
  unfold lenD at e
  split at e
  · split at e
    · rename_i s' hl
      cases e
      obtain ⟨v, rfl, r⟩ := ros1 hx
      rw [r.str]
      exact ⟨_, s'.length, rfl, ⟨by rw [sizeLine_num]; simpa [Str.length] using hl, by simp [Str.length]⟩, k _ _ (.same rfl)⟩
    · cases e
  · rename_i ys
    cases e
    obtain ⟨v, rfl, r⟩ := ros1 hx
    obtain ⟨p, vs, e1, e2, e3⟩ := r.lst s
    subst e1
    exact ⟨_, ys.length, rfl, .inl ⟨vs, SqL.of e2, e3.length.symm⟩, k _ _ (.same rfl)⟩
  · rename_i ys
    cases e
    obtain ⟨v, rfl, r⟩ := ros1 hx
    obtain ⟨p, vs, e1, e2, e3⟩ := r.tup s
    subst e1
    exact ⟨_, ys.length, rfl, .inr ⟨vs, e2, e3.length.symm⟩, k _ _ (.same rfl)⟩
  · rename_i ys
    cases e
    obtain ⟨v, rfl, r⟩ := ros1 hx
    obtain ⟨p, vs, e1, e2, e3⟩ := r.scr s
    subst e1
    exact ⟨_, ys.length, rfl, .inl ⟨vs, e2, e3.length.symm⟩, k _ _ (.same rfl)⟩
  · cases e
def absD : List D → Option RV
  | [.int i] => some (.d (.int (if i < 0 then -i else i)))
  | _ => none
theorem fnd_abs {K : PySem.W.Frag} : FnD K (fun xs H Q => ∃ i : Int, xs = [V.int i] ∧ Q (.int (if i < 0 then -i else i)) H) absD := by
  intro G H xs ds z s hx e Q k
  unfold absD at e
  split at e
  · cases e
    obtain ⟨v, rfl, r⟩ := ros1 hx
    exact ⟨_, by rw [r.int], k _ _ (.same rfl)⟩
  · cases e
def intD : List D → Option RV
  | [.int i] => some (.d (.int i))
  | [.bl b] => some (.d (.int (if b then 1 else 0)))
  | _ => none
theorem fnd_int {K : PySem.W.Frag} : FnD K (fun xs H Q => (∃ i : Int, xs = [V.int i] ∧ Q (.int i) H) ∨ ∃ k : Bool, xs = [V.bl k] ∧ Q (.int (if k then 1 else 0)) H) intD := by
  intro G H xs ds z s hx e Q k
  unfold intD at e
  split at e
  · cases e
    obtain ⟨v, rfl, r⟩ := ros1 hx
    exact .inl ⟨_, by rw [r.int], k _ _ (.same rfl)⟩
  · cases e
    obtain ⟨v, rfl, r⟩ := ros1 hx
    exact .inr ⟨_, by rw [r.bl], k _ _ (.same rfl)⟩
  · cases e
def intsOf : List D → Option (List Int)
  | [] => some []
  | .int i :: ds => (intsOf ds).map fun r => i :: r
  | _ => none
theorem ints_rds {K : PySem.W.Frag} {H : Hp} : ∀ {ds : List D} {vs : List V} {ns : List Int}, intsOf ds = some ns → RDs K H ds vs → vs = ns.map V.int
  | [], vs, ns, e, h => by cases e; cases h; rfl
  | .int i :: ds, vs, ns, e, ⟨x, xs, e1, e2, e3⟩ => by
    obtain ⟨r, h1, h2⟩ := Option.map_eq_some_iff.mp e
    subst h2
    cases e2
    rw [e1, ints_rds h1 e3]; rfl
  | .non :: ds, vs, ns, e, _ => by cases e
  | .bl _ :: ds, vs, ns, e, _ => by cases e
  | .str _ :: ds, vs, ns, e, _ => by cases e
  | .lst _ :: ds, vs, ns, e, _ => by cases e
  | .tup _ :: ds, vs, ns, e, _ => by cases e
  | .scr _ :: ds, vs, ns, e, _ => by cases e
  | .ins _ _ _ :: ds, vs, ns, e, _ => by cases e
  | .ptr _ :: ds, vs, ns, e, _ => by cases e
def boolsOf : List D → Option (List Bool)
  | [] => some []
  | .bl i :: ds => (boolsOf ds).map fun r => i :: r
  | _ => none
theorem bools_rds {K : PySem.W.Frag} {H : Hp} : ∀ {ds : List D} {vs : List V} {ns : List Bool}, boolsOf ds = some ns → RDs K H ds vs → vs = ns.map V.bl
  | [], vs, ns, e, h => by cases e; cases h; rfl
  | .bl i :: ds, vs, ns, e, ⟨x, xs, e1, e2, e3⟩ => by
    obtain ⟨r, h1, h2⟩ := Option.map_eq_some_iff.mp e
    subst h2
    cases e2
    rw [e1, bools_rds h1 e3]; rfl
  | .non :: ds, vs, ns, e, _ => by cases e
  | .int _ :: ds, vs, ns, e, _ => by cases e
  | .str _ :: ds, vs, ns, e, _ => by cases e
  | .lst _ :: ds, vs, ns, e, _ => by cases e
  | .tup _ :: ds, vs, ns, e, _ => by cases e
  | .scr _ :: ds, vs, ns, e, _ => by cases e
  | .ins _ _ _ :: ds, vs, ns, e, _ => by cases e
  | .ptr _ :: ds, vs, ns, e, _ => by cases e
def strsOf : List D → Option (List (List Nat))
  | [] => some []
  | .str i :: ds => (strsOf ds).map fun r => i :: r
  | _ => none
theorem strs_rds {K : PySem.W.Frag} {H : Hp} : ∀ {ds : List D} {vs : List V} {ns : List (List Nat)}, strsOf ds = some ns → RDs K H ds vs → vs = (ns.map fun s => (⟨s.toArray⟩ : Str)).map V.str
  | [], vs, ns, e, h => by cases e; cases h; rfl
  | .str i :: ds, vs, ns, e, ⟨x, xs, e1, e2, e3⟩ => by
    obtain ⟨r, h1, h2⟩ := Option.map_eq_some_iff.mp e
    subst h2
    cases e2
    rw [e1, strs_rds h1 e3]; rfl
  | .non :: ds, vs, ns, e, _ => by cases e
  | .int _ :: ds, vs, ns, e, _ => by cases e
  | .bl _ :: ds, vs, ns, e, _ => by cases e
  | .lst _ :: ds, vs, ns, e, _ => by cases e
  | .tup _ :: ds, vs, ns, e, _ => by cases e
  | .scr _ :: ds, vs, ns, e, _ => by cases e
  | .ins _ _ _ :: ds, vs, ns, e, _ => by cases e
  | .ptr _ :: ds, vs, ns, e, _ => by cases e
def anyL : D → Option (List D)
  | .lst xs => some xs
  | .scr xs => some xs
  | _ => none
theorem anyL_of {K : PySem.W.Frag} {G H : Hp} {d : D} {v : V} {xs : List D} (s : Same G H) (h : RO K G H d v) (e : anyL d = some xs) : ∃ p vs, v = .ref p ∧ SqL K H p vs ∧ RDs K G xs vs := by
  cases d with
  | lst ys => cases e; obtain ⟨p, vs, h1, h2, h3⟩ := h.lst s; exact ⟨p, vs, h1, SqL.of h2, h3⟩
  | scr ys => cases e; exact h.scr s
  | _ => cases e
def sumD : List D → Option RV
  | [d] => match anyL d with
    | some xs => (intsOf xs).map fun ns => .d (.int ns.sum)
    | none => none
  | _ => none
theorem fnd_sum {K : PySem.W.Frag} : FnD K (rSum K) sumD := by
  intro G H xs ds z s hx e Q k
  unfold sumD at e
  split at e
  · split at e
    · rename_i d ys el
      obtain ⟨ns, e1, e2⟩ := Option.map_eq_some_iff.mp e
      subst e2
      obtain ⟨v, rfl, r⟩ := ros1 hx
      obtain ⟨p, vs, f1, f2, f3⟩ := anyL_of s r el
      subst f1
      rw [ints_rds e1 f3] at f2
      exact ⟨p, ns, rfl, f2, k _ _ (.same rfl)⟩
    · cases e
  · cases e
def minL (n : Int) (ns : List Int) : Int := ns.foldl (fun m k => if k < m then k else m) n
def maxL (n : Int) (ns : List Int) : Int := ns.foldl (fun m k => if m < k then k else m) n
theorem minL_spec : ∀ (ns : List Int) (n : Int), (minL n ns = n ∨ minL n ns ∈ ns) ∧ minL n ns ≤ n ∧ ∀ y ∈ ns, minL n ns ≤ y
  | [], n => by simp [minL]
  | m :: ns, n => by
    obtain ⟨h1, h2, h3⟩ := minL_spec ns (if m < n then m else n)
    have e : minL n (m :: ns) = minL (if m < n then m else n) ns := rfl
    rw [e]
    refine ⟨?_, ?_, fun y hy => ?_⟩
    · rcases h1 with h1 | h1
      · rw [h1]; split
        · exact .inr List.mem_cons_self
        · exact .inl rfl
      · exact .inr (List.mem_cons_of_mem _ h1)
    · split at h2 <;> rename_i h <;> simp only [h, if_true, if_false] <;> omega
    · rcases List.mem_cons.mp hy with rfl | hy
      · split at h2 <;> rename_i h <;> simp only [h, if_true, if_false] <;> omega
      · exact h3 y hy
theorem maxL_spec : ∀ (ns : List Int) (n : Int), (maxL n ns = n ∨ maxL n ns ∈ ns) ∧ n ≤ maxL n ns ∧ ∀ y ∈ ns, y ≤ maxL n ns
  | [], n => by simp [maxL]
  | m :: ns, n => by
    obtain ⟨h1, h2, h3⟩ := maxL_spec ns (if n < m then m else n)
    have e : maxL n (m :: ns) = maxL (if n < m then m else n) ns := rfl
    rw [e]
    refine ⟨?_, ?_, fun y hy => ?_⟩
    · rcases h1 with h1 | h1
      · rw [h1]; split
        · exact .inr List.mem_cons_self
        · exact .inl rfl
      · exact .inr (List.mem_cons_of_mem _ h1)
    · split at h2 <;> rename_i h <;> simp only [h, if_true, if_false] <;> omega
    · rcases List.mem_cons.mp hy with rfl | hy
      · split at h2 <;> rename_i h <;> simp only [h, if_true, if_false] <;> omega
      · exact h3 y hy
def minD : List D → Option RV
  | [.int i, .int j] => some (.d (.int (if j < i then j else i)))
  | [.lst xs] => match intsOf xs with
    | some (n :: ns) => some (.d (.int (minL n ns)))
    | _ => none
  | _ => none
def maxD : List D → Option RV
  | [.int i, .int j] => some (.d (.int (if j > i then j else i)))
  | [.lst xs] => match intsOf xs with
    | some (n :: ns) => some (.d (.int (maxL n ns)))
    | _ => none
  | _ => none
theorem fnd_min {K : PySem.W.Frag} : FnD K (fun xs H Q => (∃ i j : Int, xs = [V.int i, V.int j] ∧ Q (.int (if j < i then j else i)) H) ∨ rMin K xs H Q) minD := by
  intro G H xs ds z s hx e Q k
  unfold minD at e
  split at e
  · cases e
    obtain ⟨v, w, rfl, r1, r2⟩ := ros2 hx
    exact .inl ⟨_, _, by rw [r1.int, r2.int], k _ _ (.same rfl)⟩
  · split at e
    · rename_i ys n ns el
      cases e
      obtain ⟨v, rfl, r⟩ := ros1 hx
      obtain ⟨p, vs, f1, f2, f3⟩ := r.lst s
      subst f1
      rw [ints_rds el f3] at f2
      refine .inr ⟨p, n :: ns, rfl, SqL.of f2, by simp, fun m hm hall => ?_⟩
      obtain ⟨h1, h2, h3⟩ := minL_spec ns n
      have : m = minL n ns := by
        have a1 : m ≤ minL n ns := by
          rcases h1 with h1 | h1
          · rw [h1]; exact hall n List.mem_cons_self
          · exact hall _ (List.mem_cons_of_mem _ h1)
        have a2 : minL n ns ≤ m := by
          rcases List.mem_cons.mp hm with rfl | hm
          · exact h2
          · exact h3 m hm
        omega
      rw [this]
      exact k _ _ (.same rfl)
    · cases e
  · cases e
theorem fnd_max {K : PySem.W.Frag} : FnD K (fun xs H Q => (∃ i j : Int, xs = [V.int i, V.int j] ∧ Q (.int (if j > i then j else i)) H) ∨ rMax K xs H Q) maxD := by
  intro G H xs ds z s hx e Q k
  unfold maxD at e
  split at e
  · cases e
    obtain ⟨v, w, rfl, r1, r2⟩ := ros2 hx
    exact .inl ⟨_, _, by rw [r1.int, r2.int], k _ _ (.same rfl)⟩
  · split at e
    · rename_i ys n ns el
      cases e
      obtain ⟨v, rfl, r⟩ := ros1 hx
      obtain ⟨p, vs, f1, f2, f3⟩ := r.lst s
      subst f1
      rw [ints_rds el f3] at f2
      refine .inr ⟨p, n :: ns, rfl, SqL.of f2, by simp, fun m hm hall => ?_⟩
      obtain ⟨h1, h2, h3⟩ := maxL_spec ns n
      have : m = maxL n ns := by
        have a1 : maxL n ns ≤ m := by
          rcases h1 with h1 | h1
          · rw [h1]; exact hall n List.mem_cons_self
          · exact hall _ (List.mem_cons_of_mem _ h1)
        have a2 : m ≤ maxL n ns := by
          rcases List.mem_cons.mp hm with rfl | hm
          · exact h2
          · exact h3 m hm
        omega
      rw [this]
      exact k _ _ (.same rfl)
    · cases e
  · cases e
def allD : List D → Option RV
  | [.lst xs] => (boolsOf xs).map fun bs => .d (.bl (bs.all id))
  | _ => none
theorem fnd_all {K : PySem.W.Frag} : FnD K (rAll K) allD := by
  intro G H xs ds z s hx e Q k
  unfold allD at e
  split at e
  · obtain ⟨ns, e1, e2⟩ := Option.map_eq_some_iff.mp e
    subst e2
    obtain ⟨v, rfl, r⟩ := ros1 hx
    obtain ⟨p, vs, f1, f2, f3⟩ := r.lst s
    subst f1
    rw [bools_rds e1 f3] at f2
    exact ⟨p, ns, rfl, SqL.of f2, k _ _ (.same rfl)⟩
  · cases e
def anyD : List D → Option RV
  | [.lst xs] => (boolsOf xs).map fun bs => .d (.bl (bs.any id))
  | _ => none
theorem fnd_any {K : PySem.W.Frag} : FnD K (rAny K) anyD := by
  intro G H xs ds z s hx e Q k
  unfold anyD at e
  split at e
  · obtain ⟨ns, e1, e2⟩ := Option.map_eq_some_iff.mp e
    subst e2
    obtain ⟨v, rfl, r⟩ := ros1 hx
    obtain ⟨p, vs, f1, f2, f3⟩ := r.lst s
    subst f1
    rw [bools_rds e1 f3] at f2
    exact ⟨p, ns, rfl, SqL.of f2, k _ _ (.same rfl)⟩
  · cases e
def tupleD : List D → Option RV
  | [.lst xs] => some (.d (.tup xs))
  | [.tup xs] => some (.d (.tup xs))
  | _ => none
theorem fnd_tuple {K : PySem.W.Frag} : FnD K (fun xs H Q => ∃ (p : Addr) (ys : List V), xs = [V.ref p] ∧ ((SqL K H p ys ∧ ∀ l, H l = none → Q (.ref l) (upd H l (.tup ys))) ∨ (SqT K H p ys ∧ Q (.ref p) H))) tupleD := by
  intro G H xs ds z s hx e Q k
  unfold tupleD at e
  split at e
  · cases e
    obtain ⟨v, rfl, r⟩ := ros1 hx
    obtain ⟨p, vs, f1, f2, f3⟩ := r.lst s
    subst f1
    exact ⟨p, vs, rfl, .inl ⟨SqL.of f2, fun l hl => k _ _ (.tup hl f3)⟩⟩
  · cases e
    obtain ⟨v, rfl, r⟩ := ros1 hx
    obtain ⟨p, vs, f1, f2, f3⟩ := r.tup s
    subst f1
    exact ⟨p, vs, rfl, .inr ⟨f2, k _ _ (.same r.rdT)⟩⟩
  · cases e
def listD : List D → Option RV
  | [.lst xs] => some (.own xs)
  | [.scr xs] => some (.own xs)
  | [.tup xs] => some (.own xs)
  | _ => none
theorem fnd_list {K : PySem.W.Frag} : FnD K (fun xs H Q => ∃ (p : Addr) (ys : List V), xs = [V.ref p] ∧ (SqL K H p ys ∨ SqT K H p ys) ∧ ∀ l, H l = none → Q (.ref l) (upd H l (.lst ys))) listD := by
  intro G H xs ds z s hx e Q k
  unfold listD at e
  split at e
  · cases e
    obtain ⟨v, rfl, r⟩ := ros1 hx
    obtain ⟨p, vs, f1, f2, f3⟩ := r.lst s
    subst f1
    exact ⟨p, vs, rfl, .inl (SqL.of f2), fun l hl => k _ _ (.lst hl f3)⟩
  · cases e
    obtain ⟨v, rfl, r⟩ := ros1 hx
    obtain ⟨p, vs, f1, f2, f3⟩ := r.scr s
    subst f1
    exact ⟨p, vs, rfl, .inl f2, fun l hl => k _ _ (.lst hl f3)⟩
  · cases e
    obtain ⟨v, rfl, r⟩ := ros1 hx
    obtain ⟨p, vs, f1, f2, f3⟩ := r.tup s
    subst f1
    exact ⟨p, vs, rfl, .inr f2, fun l hl => k _ _ (.lst hl f3)⟩
  · cases e
def bListRange (f : Ex) : Ex := fun ρ => match f ρ with
  | some (.d (.int j), ρ1) => if -(2 ^ 62) ≤ j ∧ j ≤ 16777216 then some (.own ((List.range j.toNat).map fun k : Nat => D.int (k : Int)), ρ1) else none
  | _ => none
theorem rds_range {K : PySem.W.Frag} {H : Hp} {lo : Int} : ∀ ns : List Nat, RDs K H (ns.map fun k : Nat => D.int (lo + (k : Int))) (ns.map fun k : Nat => V.int (lo + (k : Int)))
  | [] => rfl
  | n :: ns => ⟨_, _, rfl, rfl, rds_range ns⟩
section
variable {X : Cx} {a b c e o : Expr} {es : List Expr} {fa fb fc : Ex} {fs : Ax} {pos p p2 pos2 : Pos} {x : Str} {id : String}
theorem ev_listRange (hc : X.calm = true) (hg : Gl X "list") (hm : X.mg "list" = none) (hg2 : Gl X "range") (hm2 : X.mg "range" = none) (h : PEv X a fa) (na : starEach [a] X.env = (false, eval a X.env) :: starEach [] X.env := by rfl)
    (nb : starEach [.Call (.Name "range" p2) [a] [] pos2] X.env = (false, eval (.Call (.Name "range" p2) [a] [] pos2) X.env) :: starEach [] X.env := by rfl) : PEv X (.Call (.Name "list" p) [.Call (.Name "range" p2) [a] [] pos2] [] pos) (bListRange fa) :=
  PE.imp (pe_listRg hc hg hm (prg_1 hg2 hm2 h na) nb) fun σ H Q q => by
    obtain ⟨F, G, ρ, r, ρ', R, q, k⟩ := q
    unfold bListRange at q
    split at q
    rotate_left
    · cases q
    rename_i j ρ1 e1
    split at q
    rotate_left
    · cases q
    rename_i hj
    cases q
    refine ⟨F, G, ρ, _, _, R, e1, fun v G1 H1 s1 R1 q1 => ⟨j, q1, ⟨by omega, by omega, by omega, by omega, by omega⟩, fun l hl => ?_⟩⟩
    have hr : RDs X.K G1 ((List.range j.toNat).map fun k : Nat => D.int (k : Int)) (rgV 0 j) := by
      have := rds_range (K := X.K) (H := G1) (lo := 0) (List.range j.toNat)
      unfold rgV
      simpa using this
    obtain ⟨G2, t2, R2, q2⟩ := rz_done R1 (RZ.lst (G := G1) hl hr)
    exact k _ G2 _ (s1.trans t2) R2 q2
def tyD : D → Option String
  | .non => some "NoneType"
  | .bl _ => some "bool"
  | .int _ => some "int"
  | .str _ => some "str"
  | .lst _ => some "list"
  | .tup _ => some "tuple"
  | _ => none
def isiD (T : String) : List D → Option RV
  | [x, .ptr (.ty U)] => if U = T then match tyD x with
      | some A => (kitB A T).map fun r => .d (.bl r)
      | none => none
    else none
  | _ => none
theorem ty_of {K : PySem.W.Frag} {G H : Hp} {d : D} {v : V} {A : String} (s : Same G H) (r1 : RO K G H d v) (hA : tyD d = some A) : TyX K H v (.type A) := by
  cases d with
  | non => cases hA; rw [r1.non]; exact .base .non
  | bl b => cases hA; rw [r1.bl]; exact .base (.bl b)
  | int i => cases hA; rw [r1.int]; exact .base (.int i)
  | str t => cases hA; rw [r1.str]; exact .base (.str _)
  | lst ys =>
    cases hA
    obtain ⟨p, vs, f1, f2, f3⟩ := r1.lst s
    subst f1
    exact .base (.lst f2)
  | tup ys =>
    cases hA
    obtain ⟨p, vs, f1, f2, f3⟩ := r1.tup s
    subst f1
    rcases f2 with (f2 | ⟨o, f2⟩) | ⟨o, its, n, k1, k2, _⟩
    · exact .base (.tup f2)
    · exact .fTuple f2
    · exact .kTuple k1 k2
  | _ => cases hA
theorem fnd_isi {K : PySem.W.Frag} {T : String} : FnD K (rIsi K) (isiD T) := by
  intro G H xs ds z s hx e Q k
  unfold isiD at e
  split at e
  · split at e
    rotate_left
    · cases e
    rename_i d U hU
    subst hU
    split at e
    rotate_left
    · cases e
    rename_i A hA
    obtain ⟨r, e1, e2⟩ := Option.map_eq_some_iff.mp e
    subst e2
    obtain ⟨v, w, rfl, r1, r2⟩ := ros2 hx
    have r2' : w = .ty U := by
      rcases r2 with h | ⟨ds', p, vs, h0, h1, h2, h3⟩
      · exact h
      · cases h0
    subst r2'
    exact ⟨v, _, .type A, .type U, r, rfl, .ty U, ty_of s r1 hA, kit_ty e1, k _ _ (.same rfl)⟩
  · cases e
theorem ev_cls {T : String} (hg : Gl X x) (hm : X.mg x = none) (hv : bootBuiltins x = some (.type T)) (hn : x ≠ "__name__" := by decide) (hd : (x == ("__debug__" : Str)) = false := by decide) : PEv X (.Name x pos) (bC (.ptr (.ty T))) :=
  ev_const (v := .ty T) (pe_bltn hg hm hv (show RelV (.ty T) (.type T) from rfl) hn hd) fun G => rfl
def bMt (g : List Nat → List D → Option RV) (fo : Ex) (fs : Ax) : Ex := fun ρ => match fo ρ with
  | some (.d (.str s), ρ1) => match fs ρ1 with
    | none => none
    | some (rs, ρ2) => match pks ρ2 rs with
      | none => none
      | some ds => (g s ds).map fun z => (z, ρ2)
  | _ => none
def MtD (K : PySem.W.Frag) (r : V → List V → Hp → VK → Prop) (g : List Nat → List D → Option RV) : Prop := ∀ (G H : Hp) (s : List Nat) (xs : List V) (ds : List D) (z : RV), Same G H → ROs K G H ds xs → g s ds = some z → ∀ Q : VK, (∀ v H', RZ K G H z v H' → Q v H') → r (.str ⟨s.toArray⟩) xs H Q
theorem read_mt {K : PySem.W.Frag} {fo : Ex} {g : List Nat → List D → Option RV} {r : V → List V → Hp → VK → Prop} (hg : MtD K r g) {σ : Sg} {H : Hp} {Q : VK} (h : tE K (bMt g fo fs) σ H Q) : tBM K "str" r (tE K fo) (tAr K fs) σ H Q := by
  obtain ⟨F, G, ρ, z, ρ', R, e, k⟩ := h
  unfold bMt at e
  split at e
  rotate_left
  · cases e
  rename_i s ρ1 e1
  split at e
  · cases e
  rename_i rs ρ2 e2
  split at e
  · cases e
  rename_i ds e3
  obtain ⟨z', ez, eq⟩ := Option.map_eq_some_iff.mp e
  cases eq
  refine ⟨F, G, ρ, _, ρ1, R, e1, fun v G1 H1 s1 R1 q1 => ?_⟩
  cases (show v = .str ⟨s.toArray⟩ from q1)
  refine ⟨rfl, F, G1, ρ1, rs, _, R1, e2, fun vs G2 H2 s2 R2 q2 => ?_⟩
  refine hg G2 H2 s vs ds _ R2.gh (pks_ros R2 q2 e3) ez Q fun w H3 hz => ?_
  obtain ⟨G3, t3, R3, q3⟩ := rz_done R2 hz
  exact k w G3 H3 ((s1.trans s2).trans t3) R3 q3
def joinD (s : List Nat) : List D → Option RV
  | [.lst xs] => match strsOf xs with
    | some ys => if (ys.map (·.length)).sum + ys.length * s.length ≤ 16777216 then some (.d (.str (joinL s ys))) else none
    | none => none
  | [.tup xs] => match strsOf xs with
    | some ys => if (ys.map (·.length)).sum + ys.length * s.length ≤ 16777216 then some (.d (.str (joinL s ys))) else none
    | none => none
  | _ => none
theorem str_of_tl {x : Str} {l : List Nat} (h : tl x = l) : x = ⟨l.toArray⟩ := by
  subst h
  cases x
  simp [tl]
theorem map_tl : ∀ ys : List (List Nat), (ys.map fun s => (⟨s.toArray⟩ : Str)).map tl = ys
  | [] => rfl
  | y :: ys => by
    show tl ⟨y.toArray⟩ :: _ = _
    rw [map_tl ys]
theorem join_val (s : List Nat) (ys : List (List Nat)) : Txt.join ⟨s.toArray⟩ (ys.map fun s => (⟨s.toArray⟩ : Str)) = ⟨(joinL s ys).toArray⟩ := by
  refine str_of_tl ?_
  rw [join_eq, tl_join, map_tl]
theorem mtd_join {K : PySem.W.Frag} : MtD K (fun x xs H Q => ∃ a p, ∃ ys : List Str, x = V.str a ∧ xs = [.ref p] ∧ (SqL K H p (ys.map V.str) ∨ SqT K H p (ys.map V.str)) ∧
    (ys.map (·.length)).sum + ys.length * a.length ≤ 16777216 ∧ Q (.str (Txt.join a ys)) H) joinD := by
  intro G H s xs ds z sm hx e Q k
  have key : ∀ ys : List (List Nat), (ys.map (·.length)).sum + ys.length * s.length ≤ 16777216 → ((ys.map fun s => (⟨s.toArray⟩ : Str)).map (·.length)).sum + (ys.map fun s => (⟨s.toArray⟩ : Str)).length * (⟨s.toArray⟩ : Str).length ≤ 16777216 := fun ys h => by
    rw [List.map_map, List.length_map]
    have e : ((fun x : Str => x.length) ∘ fun s : List Nat => (⟨s.toArray⟩ : Str)) = fun s : List Nat => s.length := by
      funext s; simp [Str.length]
    rw [e]
    simpa [Str.length] using h
  unfold joinD at e
  split at e
  · split at e
    rotate_left
    · cases e
    rename_i ys el
    split at e
    rotate_left
    · cases e
    rename_i hl
    cases e
    obtain ⟨v, rfl, r⟩ := ros1 hx
    obtain ⟨p, vs, f1, f2, f3⟩ := r.lst sm
    subst f1
    rw [strs_rds el f3] at f2
    exact ⟨_, p, _, rfl, rfl, .inl (SqL.of f2), key ys hl, by rw [join_val]; exact k _ _ (.same rfl)⟩
  · split at e
    rotate_left
    · cases e
    rename_i ys el
    split at e
    rotate_left
    · cases e
    rename_i hl
    cases e
    obtain ⟨v, rfl, r⟩ := ros1 hx
    obtain ⟨p, vs, f1, f2, f3⟩ := r.tup sm
    subst f1
    rw [strs_rds el f3] at f2
    exact ⟨_, p, _, rfl, rfl, .inr f2, key ys hl, by rw [join_val]; exact k _ _ (.same rfl)⟩
  · cases e
def occ (s t : List Nat) : List Nat := Builtin.Str.occurrences ⟨s.toArray⟩ ⟨t.toArray⟩ 0 s.length 1
def sindexD (s : List Nat) : List D → Option RV
  | [.str t] => match occ s t with
    | i :: _ => some (.d (.int i))
    | [] => none
  | _ => none
theorem mtd_sindex {K : PySem.W.Frag} : MtD K (fun x xs H Q => ∃ a b i rest, x = V.str a ∧ xs = [V.str b] ∧ Builtin.Str.occurrences a b 0 a.length 1 = i :: rest ∧ Q (.int (i : Nat)) H) sindexD := by
  intro G H s xs ds z sm hx e Q k
  unfold sindexD at e
  split at e
  · split at e
    · rename_i t i r el
      cases e
      obtain ⟨v, rfl, q⟩ := ros1 hx
      refine ⟨_, _, i, r, rfl, by rw [q.str], ?_, k _ _ (.same rfl)⟩
      unfold occ at el
      simpa [Str.length] using el
    · cases e
  · cases e
def appendD (xs ds : List D) : Option (List D × D) := match ds with
  | [d] => if xs.length < 16777216 then some (xs ++ [d], .non) else none
  | _ => none
theorem mud_append {K : PySem.W.Frag} : MuD K rAppend appendD := by
  intro G H p vs us xs ds ys z s hp gp hx hd e Q k
  unfold appendD at e
  split at e
  · split at e
    · rename_i d hl
      cases e
      obtain ⟨v, ws, rfl, e2, e3⟩ := hd
      cases e3
      exact ⟨p, vs, v, rfl, rfl, hp, by rw [sizeLine_num, hx.length]; exact hl, k _ _ (hx.append (RDs.one e2)) rfl⟩
    · cases e
  · cases e
def extendD (xs ds : List D) : Option (List D × D) := match ds with
  | [.lst zs] => if xs.length + zs.length ≤ 16777216 then some (xs ++ zs, .non) else none
  | _ => none
theorem mud_extend {K : PySem.W.Frag} : MuD K rExtend extendD := by
  intro G H p vs us xs ds ys z s hp gp hx hd e Q k
  unfold extendD at e
  split at e
  · split at e
    · rename_i zs hl
      cases e
      obtain ⟨v, ws, rfl, ⟨q, ws', rfl, f2, f3⟩, e3⟩ := hd
      cases e3
      exact ⟨p, q, vs, ws', rfl, rfl, hp, s _ _ f2, by rw [sizeLine_num, hx.length, f3.length]; exact hl, k _ _ (hx.append f3) rfl⟩
    · cases e
  · cases e
def popAtD (xs ds : List D) : Option (List D × D) := match ds with
  | [.int i] => if -(2 ^ 63) ≤ i ∧ i < 2 ^ 63 then match seqIndex? i xs.length with
      | some j => match xs[j]? with
        | some d => some (xs.eraseIdx j, d)
        | none => none
      | none => none
    else none
  | _ => none
theorem mud_popAt {K : PySem.W.Frag} : MuD K rPopAt popAtD := by
  intro G H p vs us xs ds ys z s hp gp hx hd e Q k
  unfold popAtD at e
  split at e
  · split at e
    rotate_left
    · cases e
    rename_i i hi
    split at e
    rotate_left
    · cases e
    rename_i j hj
    split at e
    rotate_left
    · cases e
    rename_i d he
    cases e
    obtain ⟨v, ws, rfl, e2, e3⟩ := hd
    cases e3
    cases (show v = .int i from e2)
    obtain ⟨w, w1, w2⟩ := hx.get he
    exact ⟨p, vs, i, j, w, rfl, rfl, hp, hi.1, hi.2, by rw [hx.length]; exact hj, w1, k _ _ (hx.eraseIdx j) w2⟩
  · cases e
def popD (xs ds : List D) : Option (List D × D) := match ds with
  | [] => match xs[xs.length - 1]? with
    | some d => some (xs.dropLast, d)
    | none => none
  | _ => none
theorem RDs.dropLast {K : PySem.W.Frag} {G : Hp} {ds : List D} {vs : List V} (h : RDs K G ds vs) : RDs K G ds.dropLast vs.dropLast := by
  rw [List.dropLast_eq_take, List.dropLast_eq_take, h.length]
  exact h.take _
theorem mud_pop {K : PySem.W.Frag} : MuD K rPop popD := by
  intro G H p vs us xs ds ys z s hp gp hx hd e Q k
  unfold popD at e
  split at e
  · split at e
    rotate_left
    · cases e
    rename_i d he
    cases e
    cases hd
    obtain ⟨w, w1, w2⟩ := hx.get he
    exact ⟨p, vs, w, rfl, rfl, hp, by rw [hx.length]; exact w1, k _ _ hx.dropLast w2⟩
  · cases e
end
end M
namespace M
open PySem PySem.Spec PyProof.Rows L2 TL
def RWs (K : PySem.W.Frag) (F : Fm) (G H : Hp) (σ : Sg) (ρ : Sl) : List RV → List V → Prop
  | [], vs => vs = []
  | r :: rs, vs => ∃ x xs, vs = x :: xs ∧ RR K F G H σ ρ r x ∧ (∀ j, r ≠ .bor j) ∧ (∀ (ys : List D) (k : Nat) (zs : List D) (y : V), r = .own ys → rs[k]? = some (RV.own zs) → xs[k]? = some y → x ≠ y) ∧ RWs K F G H σ ρ rs xs
def aoCons (f : Ex) (g : Ax) : Ax := fun ρ => match f ρ with
  | none => none
  | some (.bor _, _) => none
  | some (r, ρ1) => match g ρ1 with
    | none => none
    | some (rs, ρ2) => some (r :: rs, ρ2)
def tAo (K : PySem.W.Frag) (f : Ax) : TA := fun σ H Q => ∃ F G ρ rs ρ', Rep K F G H σ ρ ∧ f ρ = some (rs, ρ') ∧ ∀ vs G' H', Same G G' → Rep K F G' H' σ ρ' → RWs K F G' H' σ ρ' rs vs → Q vs H'
def PAo (X : Cx) (es : List Expr) (f : Ax) : Prop := PA X es (tAo X.K f)
theorem RWs.lent {K : PySem.W.Frag} {F : Fm} {G H : Hp} {σ : Sg} {ρ : Sl} {p : Addr} {o : HO} (fp : F.hp p = none) : ∀ {rs : List RV} {vs : List V}, RWs K ⟨upd F.hp p o, F.par⟩ G H σ ρ rs vs → RWs K F G H σ ρ rs vs ∧ ∀ (k : Nat) (zs : List D) (y : V), rs[k]? = some (RV.own zs) → vs[k]? = some y → V.ref p ≠ y
  | [], vs, h => ⟨h, fun k zs y e => by simp at e⟩
  | r :: rs, vs, ⟨x, xs, e1, e2, e3, e4, e5⟩ => by
    obtain ⟨h1, h2⟩ := RWs.lent fp e5
    obtain ⟨h3, h4⟩ := e2.lent fp
    refine ⟨⟨x, xs, e1, h3, e3, e4, h1⟩, fun k zs y q1 q2 => ?_⟩
    subst e1
    cases k with
    | zero =>
      simp at q1 q2
      subst q2
      exact (h4 zs q1).symm
    | succ k => exact h2 k zs y (by simpa using q1) (by simpa using q2)
section
variable {X : Cx} {a b c e : Expr} {es : List Expr} {fa fb fc : Ex} {pos p : Pos} {x : Str}
theorem ao_nil : PAo X [] aNil := PA.imp pa_nil fun σ H Q h => by
  obtain ⟨F, G, ρ, rs, ρ', R, e, k⟩ := h
  cases e
  exact k [] G H (Same.refl G) R rfl
theorem ao_cons {f : Ax} (he : PEv X e fa) (hs : PAo X es f) (hst : starEach (e :: es) X.env = (false, eval e X.env) :: starEach es X.env := by rfl) : PAo X (e :: es) (aoCons fa f) := PA.imp (pa_cons he hs hst) fun σ H Q h => by
  obtain ⟨F, G, ρ, rs, ρ', R, q, k⟩ := h
  unfold aoCons at q
  split at q
  · cases q
  · cases q
  rename_i r ρ1 hnb e1
  split at q
  · cases q
  rename_i rb ρ2 e2
  cases q
  refine ⟨F, G, ρ, r, ρ1, R, e1, fun v G1 H1 s1 R1 q1 => ?_⟩
  cases r with
  | bor i => exact (hnb i rfl).elim
  | d d =>
    refine ⟨F, G1, ρ1, rb, _, R1, e2, fun ys G2 H2 s2 R2 q2 => k _ G2 H2 (s1.trans s2) R2 ⟨v, ys, rfl, RD.mono s2 _ _ q1, fun j z => (nomatch z), fun _ _ _ _ z => (nomatch z), q2⟩⟩
  | own xs =>
    obtain ⟨p, vs, rfl, hp, gp, fp, hr, hs⟩ := q1
    refine ⟨⟨upd F.hp p (.lst vs), F.par⟩, G1, ρ1, rb, _, R1.lend hp gp hs, e2, fun ys G2 H2 s2 R2 q2 => ?_⟩
    obtain ⟨R2', hp2, gp2, ns2⟩ := R2.back fp
    obtain ⟨q2', ne⟩ := q2.lent fp
    exact k _ G2 H2 (s1.trans s2) R2' ⟨.ref p, ys, rfl, ⟨p, vs, rfl, hp2, gp2, fp, RDs.mono s2 _ _ hr, ns2⟩, fun j z => (nomatch z), fun _ k zs y _ z1 z2 => ne k zs y z1 z2, q2'⟩
end
def putRs : List Nat → List RV → Sl → Option Sl
  | [], [], ρ => some ρ
  | i :: is, r :: rs, ρ => match putR i r ρ with
    | none => none
    | some ρ1 => putRs is rs ρ1
  | _, _, _ => none
def sigs : List Nat → List V → Sg → Sg
  | i :: is, v :: vs, σ => sigs is vs (σ.set i (some v))
  | _, _, σ => σ
theorem RWs.put {K : PySem.W.Frag} {F : Fm} {G H : Hp} {σ : Sg} {ρ ρ' : Sl} {i : Nat} {r : RV} {v : V} (e : putR i r ρ = some ρ') : ∀ {rs : List RV} {vs : List V}, (∀ (ys : List D) (k : Nat) (zs : List D) (y : V), r = .own ys → rs[k]? = some (RV.own zs) → vs[k]? = some y → v ≠ y) → RWs K F G H σ ρ rs vs → RWs K F G H (σ.set i (some v)) ρ' rs vs
  | [], vs, _, h => h
  | q :: rs, vs, hd, ⟨x, xs, e1, e2, e3, e4, e5⟩ => by
    subst e1
    refine ⟨x, xs, rfl, RR.put e e2 e3 (fun ys zs z1 z2 => hd ys 0 zs x z1 (by rw [z2]; rfl) rfl), e3, e4, RWs.put e (fun ys k zs y z1 z2 z3 => hd ys (k + 1) zs y z1 (by simpa using z2) (by simpa using z3)) e5⟩
theorem Rep.puts {K : PySem.W.Frag} {F : Fm} {G H : Hp} : ∀ {is : List Nat} {rs : List RV} {vs : List V} {σ : Sg} {ρ ρ' : Sl}, Rep K F G H σ ρ → RWs K F G H σ ρ rs vs → putRs is rs ρ = some ρ' → Rep K F G H (sigs is vs σ) ρ'
  | [], [], vs, σ, ρ, ρ', R, h, e => by
    cases e
    cases h
    exact R
  | [], r :: rs, vs, σ, ρ, ρ', R, h, e => by cases e
  | i :: is, [], vs, σ, ρ, ρ', R, h, e => by cases e
  | i :: is, r :: rs, vs, σ, ρ, ρ', R, ⟨x, xs, e1, e2, e3, e4, e5⟩, e => by
    unfold putRs at e
    split at e
    · cases e
    rename_i ρ1 p1
    subst e1
    show Rep K F G H (sigs is xs (σ.set i (some x))) ρ'
    exact Rep.puts (R.put e2 p1) (RWs.put p1 e4 e5) e
def sParN (is : List Nat) (fs : Ax) : Sx := fun ρ => match fs ρ with
  | none => none
  | some (rs, ρ1) => (putRs is rs ρ1).map fun ρ2 => (.nx, ρ2)
theorem RWs.len {K : PySem.W.Frag} {F : Fm} {G H : Hp} {σ : Sg} {ρ : Sl} : ∀ {rs : List RV} {vs : List V}, RWs K F G H σ ρ rs vs → vs.length = rs.length
  | [], vs, h => by cases h; rfl
  | r :: rs, vs, ⟨x, xs, e1, e2, e3, e4, e5⟩ => by subst e1; simp [RWs.len e5]
theorem putRs_len : ∀ {is : List Nat} {rs : List RV} {ρ ρ' : Sl}, putRs is rs ρ = some ρ' → is.length = rs.length
  | [], [], _, _, _ => rfl
  | [], _ :: _, _, _, e => by cases e
  | _ :: _, [], _, _, e => by cases e
  | i :: is, r :: rs, ρ, ρ', e => by
    unfold putRs at e
    split at e
    · cases e
    · simp [putRs_len e]
section
variable {X : Cx} {a b c e : Expr} {es : List Expr} {fa fb fc : Ex} {fs : Ax} {pos p pos' : Pos} {x y z : Str}
theorem read_parN {K : PySem.W.Frag} {is : List Nat} {fs : Ax} {D : Ends} {σ : Sg} {H : Hp} (h : tS K (sParN is fs) D σ H) : tAo K fs σ H fun vs H1 => vs.length = is.length ∧ D.nx (sigs is vs σ) H1 := by
  obtain ⟨F, G, ρ, fl, ρ', R, q, k⟩ := h
  unfold sParN at q
  split at q
  · cases q
  rename_i rs ρ1 e1
  obtain ⟨ρ2, e2, eq⟩ := Option.map_eq_some_iff.mp q
  cases eq
  exact ⟨F, G, ρ, rs, ρ1, R, e1, fun vs G1 H1 s1 R1 q1 => ⟨by rw [q1.len, putRs_len e2], k _ G1 H1 s1 (R1.puts q1 e2)⟩⟩
theorem sv_par2 {i j : Nat} {px py pt : Pos} {kt k2 pt2} (hc : X.calm = true) (hN : X.N.Nodup) (hi : X.N[i]? = some x) (hj : X.N[j]? = some y) (hij : i ≠ j)
    (hx : X.env.scope.names.lookup x = some .local) (hy : X.env.scope.names.lookup y = some .local) (ha : PAo X [a, b] fs)
    (hw : swappedStores [.Tuple [.Name x px, .Name y py] kt pt] (.Tuple [a, b] k2 pt2) X.env = pure (some [x, y]))
    (hs : swapsWithSole [.Tuple [.Name x px, .Name y py] kt pt] (.Tuple [a, b] k2 pt2) pos.line X.env = pure false := by rfl) :
    PSv X (.Assign [.Tuple [.Name x px, .Name y py] kt pt] (.Tuple [a, b] k2 pt2) pos) (sParN [i, j] fs) := PS.imp (ps_par hc hN hi hj hij hx hy ha hw hs) fun D σ H h => by
  have := read_parN h
  obtain ⟨F, G, ρ, rs, ρ', R, e, k⟩ := this
  refine ⟨F, G, ρ, rs, ρ', R, e, fun vs G1 H1 s1 R1 q1 => ?_⟩
  obtain ⟨hl, q⟩ := k vs G1 H1 s1 R1 q1
  match vs, hl with
  | [v, w], _ => exact ⟨v, w, rfl, q⟩
theorem sv_par3 {i j l : Nat} {px py pz pt : Pos} {kt k2 pt2} (hc : X.calm = true) (hN : X.N.Nodup) (hi : X.N[i]? = some x) (hj : X.N[j]? = some y) (hl : X.N[l]? = some z) (hij : i ≠ j) (hil : i ≠ l) (hjl : j ≠ l)
    (hx : X.env.scope.names.lookup x = some .local) (hy : X.env.scope.names.lookup y = some .local) (hz : X.env.scope.names.lookup z = some .local) (ha : PAo X [a, b, c] fs)
    (hw : swappedStores [.Tuple [.Name x px, .Name y py, .Name z pz] kt pt] (.Tuple [a, b, c] k2 pt2) X.env = pure (some [x, y, z]))
    (hs : swapsWithSole [.Tuple [.Name x px, .Name y py, .Name z pz] kt pt] (.Tuple [a, b, c] k2 pt2) pos.line X.env = pure false := by rfl) :
    PSv X (.Assign [.Tuple [.Name x px, .Name y py, .Name z pz] kt pt] (.Tuple [a, b, c] k2 pt2) pos) (sParN [i, j, l] fs) := PS.imp (ps_par3 hc hN hi hj hl hij hil hjl hx hy hz ha hw hs) fun D σ H h => by
  have := read_parN h
  obtain ⟨F, G, ρ, rs, ρ', R, e, k⟩ := this
  refine ⟨F, G, ρ, rs, ρ', R, e, fun vs G1 H1 s1 R1 q1 => ?_⟩
  obtain ⟨hl, q⟩ := k vs G1 H1 s1 R1 q1
  match vs, hl with
  | [u, v, w], _ => exact ⟨u, v, w, rfl, q⟩
def sBind (bind : Bx) (f : Ex) : Sx := fun ρ => match bFz f ρ with
  | some (.d v, ρ1) => (bind v ρ1).map fun ρ2 => (.nx, ρ2)
  | _ => none
theorem sv_bind {tg : Expr} {bind : Bx} {is : List Nat} (he : PEv X e fa) (hg : PGv X tg bind is) (hs : swapsWithSole [tg] e pos.line X.env = pure false := by rfl) (hw : swappedStores [tg] e X.env = pure none := by rfl) (h1 : (assignEach [tg] X.env).map (·.2) = [assign tg X.env] := by rfl) :
    PSv X (.Assign [tg] e pos) (sBind bind fa) := PS.imp (ps_asg (ev_fz he) hg hs hw h1) fun D σ H h => by
  obtain ⟨F, G, ρ, fl, ρ', R, q, k⟩ := h
  unfold sBind at q
  split at q
  rotate_left
  · cases q
  rename_i v ρ1 e1
  obtain ⟨ρ2, e2, eq⟩ := Option.map_eq_some_iff.mp q
  cases eq
  exact ⟨F, G, ρ, _, ρ1, R, e1, fun w G1 H1 s1 R1 q1 => ⟨F, G1, ρ1, v, _, R1, q1, e2, fun σ' R' _ => k σ' G1 H1 s1 R'⟩⟩
theorem ev_n (i : Nat) (hN : X.N[i]? = some x := by rfl) (hv : Vis X.env.scope x := by first | exact Or.inl rfl | exact Or.inr (Or.inl rfl) | exact Or.inr (Or.inr rfl)) (hd : (x == ("__debug__" : Str)) = false := by decide)
    (hcd : (x == ("__classdict__" : Str)) = false := by decide) : PEv X (.Name x pos) (bV i) := ev_var (pe_var hN hv hd hcd)
theorem ev_int {i j} : PEv X (.Constant (.int i) j pos) (bC (.int i)) := ev_const pe_int fun _ => rfl
theorem ev_bl {i j} : PEv X (.Constant (.bool i) j pos) (bC (.bl i)) := ev_const pe_bl fun _ => rfl
theorem ev_non {j} : PEv X (.Constant .none j pos) (bC .non) := ev_const pe_non fun _ => rfl
theorem ev_str {s : Str} {j} {l : List Nat} (h : s = ⟨l.toArray⟩) : PEv X (.Constant (.str s) j pos) (bC (.str l)) := ev_const pe_str fun _ => by rw [h]; rfl
theorem ev_glob {d : D} {v : V} {u : Value} (hg : Gl X x) (hm : X.mg x = some u) (r : RelV v u) (hd : ∀ G, RD X.K G d v) (hdb : (x == ("__debug__" : Str)) = false := by decide) : PEv X (.Name x pos) (bC d) := ev_const (pe_glob hg hm r hdb) hd
def GInt (mg : Str → Option Value) (x : Str) (i : Int) : Prop := ∃ t, mg x = some (.int i t)
def GStr (mg : Str → Option Value) (x : Str) (l : List Nat) : Prop := ∃ t, mg x = some (.str ⟨l.toArray⟩ t)
theorem ev_gint {i : Int} (h : GInt X.mg x i) (hg : Gl X x) (hdb : (x == ("__debug__" : Str)) = false := by decide) : PEv X (.Name x pos) (bC (.int i)) := by
  obtain ⟨t, h⟩ := h
  exact ev_glob (v := V.int i) hg h ⟨t, rfl⟩ (fun _ => rfl) hdb
theorem ev_gstr {l : List Nat} (h : GStr X.mg x l) (hg : Gl X x) (hdb : (x == ("__debug__" : Str)) = false := by decide) : PEv X (.Name x pos) (bC (.str l)) := by
  obtain ⟨t, h⟩ := h
  exact ev_glob (v := V.str ⟨l.toArray⟩) hg h ⟨t, rfl⟩ (fun _ => rfl) hdb
theorem gv_n (i : Nat) (hN : X.N.Nodup) (hi : X.N[i]? = some x := by rfl) (hx : Loc X.env.scope x := by first | exact Or.inl rfl | exact Or.inr rfl) (hf : X.fn x = true ∨ X.env.scope.names.lookup x = some .local := by first | exact .inl rfl | exact .inr rfl) : PGv X (.Name x pos) (bName i) [i] :=
  gv_of (pg_name hN hi hx hf) gd_name
inductive NmTs (X : Cx) : List Expr → List Nat → Prop
  | nil : NmTs X [] []
  | cons {x : Str} {pos : Pos} {i : Nat} {es : List Expr} {is : List Nat} : PG X (.Name x pos) (gName i) → NmTs X es is → NmTs X (.Name x pos :: es) (i :: is)
theorem NmTs.pgs {es : List Expr} {is : List Nat} (h : NmTs X es is) : PGs X es (gNames is) := by
  induction h with
  | nil => exact pgs_nil
  | cons h _ ih => exact pgs_cons h ih
theorem gt_n (i : Nat) (hN : X.N.Nodup) (hi : X.N[i]? = some x := by rfl) (hx : Loc X.env.scope x := by first | exact Or.inl rfl | exact Or.inr rfl) (hf : X.fn x = true ∨ X.env.scope.names.lookup x = some .local := by first | exact .inl rfl | exact .inr rfl) : PG X (.Name x pos) (gName i) := pg_name hN hi hx hf
theorem gv_tup {es : List Expr} {is : List Nat} {k : Nat} (hc : X.calm = true) (h : NmTs X es is) (hn : (assignEach es X.env).length = is.length := by rfl) (hst : (assignEach es X.env).findIdx? (·.1) = none := by rfl) : PGv X (.Tuple es k pos) (bTup is) is :=
  gv_of (pg_tup hc h.pgs hn hst) (gd_tup rfl)
theorem sv_n (i : Nat) (hN : X.N.Nodup) (he : PEv X e fa) (hi : X.N[i]? = some x := by rfl) (hx : Loc X.env.scope x := by first | exact Or.inl rfl | exact Or.inr rfl) (hs : swapsWith e (some (.Name x pos')) pos.line X.env = pure false := by rfl)
    (hf : X.fn x = true ∨ X.env.scope.names.lookup x = some .local := by first | exact .inl rfl | exact .inr rfl) : PSv X (.Assign [.Name x pos'] e pos) (sSet i fa) := sv_set he (ps_set hN hi hx he hs hf)
theorem ev_tupE {j : Nat} (h : PAv X es fs) : PEv X (.Tuple es j pos) (bTupE fs) := ev_tup h (pe_tup h)
theorem ev_lstE (h : PAv X es fs) : PEv X (.List es pos) (bLstE fs) := ev_lst h (pe_lst h)
theorem ev_join {o : Expr} {fo : Ex} {apos cpos : Pos} (ho : PEv X o fo) (ha : PAv X (e :: es) fs) (hbase : attributeBase o "join" X.env (eval o X.env) = eval o X.env := by rfl)
    (hfew : ((backTo cpos (starEach (e :: es) X.env)).all (fun x => !x.1) && (backToKw cpos (keywordEach [] X.env)).all (fun x => x.1.isSome)
      && decide ((e :: es).length + ([] : List Keyword).length + (if ([] : List Keyword).isEmpty then 0 else 1) < 30)) = true := by rfl)
    (hline : (apos.endLine == cpos.line) = true := by rfl) (hs : starEach (e :: es) X.env = (false, eval e X.env) :: starEach es X.env := by rfl) (hplain : (backTo cpos (starEach es X.env)).any (·.1) = false := by rfl) :
    PEv X (.Call (.Attribute o "join" apos) (e :: es) [] cpos) (bMt joinD fo fs) :=
  PE.imp (pe_bm PySem.F.plainAttrs_str PySem.F.slot_str_join PySem.F.type_str_join mt_join ho ha hbase hfew hline hs hplain) fun _ _ _ h => read_mt mtd_join h
theorem ev_sindex {o : Expr} {fo : Ex} {apos cpos : Pos} (ho : PEv X o fo) (ha : PAv X (e :: es) fs) (hbase : attributeBase o "index" X.env (eval o X.env) = eval o X.env := by rfl)
    (hfew : ((backTo cpos (starEach (e :: es) X.env)).all (fun x => !x.1) && (backToKw cpos (keywordEach [] X.env)).all (fun x => x.1.isSome)
      && decide ((e :: es).length + ([] : List Keyword).length + (if ([] : List Keyword).isEmpty then 0 else 1) < 30)) = true := by rfl)
    (hline : (apos.endLine == cpos.line) = true := by rfl) (hs : starEach (e :: es) X.env = (false, eval e X.env) :: starEach es X.env := by rfl) (hplain : (backTo cpos (starEach es X.env)).any (·.1) = false := by rfl) :
    PEv X (.Call (.Attribute o "index" apos) (e :: es) [] cpos) (bMt sindexD fo fs) :=
  PE.imp (pe_bm PySem.F.plainAttrs_str PySem.F.slot_str_index PySem.F.type_str_index mt_sindex ho ha hbase hfew hline hs hplain) fun _ _ _ h => read_mt mtd_sindex h
theorem ev_append {i : Nat} {p1 apos cpos : Pos} (ho : PE X (.Name x p1) (tVar i)) (ha : PAv X (e :: es) fs) (hbase : attributeBase (.Name x p1) "append" X.env (eval (.Name x p1) X.env) = eval (.Name x p1) X.env := by rfl)
    (hfew : ((backTo cpos (starEach (e :: es) X.env)).all (fun x => !x.1) && (backToKw cpos (keywordEach [] X.env)).all (fun x => x.1.isSome)
      && decide ((e :: es).length + ([] : List Keyword).length + (if ([] : List Keyword).isEmpty then 0 else 1) < 30)) = true := by rfl)
    (hline : (apos.endLine == cpos.line) = true := by rfl) (hs : starEach (e :: es) X.env = (false, eval e X.env) :: starEach es X.env := by rfl) (hplain : (backTo cpos (starEach es X.env)).any (·.1) = false := by rfl) :
    PEv X (.Call (.Attribute (.Name x p1) "append" apos) (e :: es) [] cpos) (bMu i appendD fs) :=
  PE.imp (pe_bm PySem.F.plainAttrs_list PySem.F.slot_list_append PySem.F.type_list_append mt_append ho ha hbase hfew hline hs hplain) fun _ _ _ h => read_mu mud_append h
theorem ev_extend {i : Nat} {p1 apos cpos : Pos} (ho : PE X (.Name x p1) (tVar i)) (ha : PAv X (e :: es) fs) (hbase : attributeBase (.Name x p1) "extend" X.env (eval (.Name x p1) X.env) = eval (.Name x p1) X.env := by rfl)
    (hfew : ((backTo cpos (starEach (e :: es) X.env)).all (fun x => !x.1) && (backToKw cpos (keywordEach [] X.env)).all (fun x => x.1.isSome)
      && decide ((e :: es).length + ([] : List Keyword).length + (if ([] : List Keyword).isEmpty then 0 else 1) < 30)) = true := by rfl)
    (hline : (apos.endLine == cpos.line) = true := by rfl) (hs : starEach (e :: es) X.env = (false, eval e X.env) :: starEach es X.env := by rfl) (hplain : (backTo cpos (starEach es X.env)).any (·.1) = false := by rfl) :
    PEv X (.Call (.Attribute (.Name x p1) "extend" apos) (e :: es) [] cpos) (bMu i extendD fs) :=
  PE.imp (pe_bm PySem.F.plainAttrs_list PySem.F.slot_list_extend PySem.F.type_list_extend mt_extend ho ha hbase hfew hline hs hplain) fun _ _ _ h => read_mu mud_extend h
theorem ev_popAt {i : Nat} {p1 apos cpos : Pos} (ho : PE X (.Name x p1) (tVar i)) (ha : PAv X (e :: es) fs) (hbase : attributeBase (.Name x p1) "pop" X.env (eval (.Name x p1) X.env) = eval (.Name x p1) X.env := by rfl)
    (hfew : ((backTo cpos (starEach (e :: es) X.env)).all (fun x => !x.1) && (backToKw cpos (keywordEach [] X.env)).all (fun x => x.1.isSome)
      && decide ((e :: es).length + ([] : List Keyword).length + (if ([] : List Keyword).isEmpty then 0 else 1) < 30)) = true := by rfl)
    (hline : (apos.endLine == cpos.line) = true := by rfl) (hs : starEach (e :: es) X.env = (false, eval e X.env) :: starEach es X.env := by rfl) (hplain : (backTo cpos (starEach es X.env)).any (·.1) = false := by rfl) :
    PEv X (.Call (.Attribute (.Name x p1) "pop" apos) (e :: es) [] cpos) (bMu i popAtD fs) :=
  PE.imp (pe_bm PySem.F.plainAttrs_list PySem.F.slot_list_pop PySem.F.type_list_pop mt_popAt ho ha hbase hfew hline hs hplain) fun _ _ _ h => read_mu mud_popAt h
theorem sv_put {i : Nat} {p1 ipos : Pos} {k : Expr} (ho : PE X (.Name x p1) (tVar i)) (hk : PEv X k fb) (he : PEv X e fa) (hs : swapsWithSole [.Subscript (.Name x p1) k ipos] e pos.line X.env = pure false := by rfl) (hw : swappedStores [.Subscript (.Name x p1) k ipos] e X.env = pure none := by rfl) (h1 : (assignEach [.Subscript (.Name x p1) k ipos] X.env).map (·.2) = [assign (.Subscript (.Name x p1) k ipos) X.env] := by rfl)
    (ha : ∀ v, assign (.Subscript (.Name x p1) k ipos) X.env v = (do
      let ov ← holding [v] (eval (.Name x p1) X.env)
      let iv ← holding [v, ov] (eval k X.env)
      standAt ipos
      holding [v, ov, iv] (setItem ov iv v)
      release [v, ov, iv] []) := by intro _; rfl) :
    PSv X (.Assign [.Subscript (.Name x p1) k ipos] e pos) (sPut i fb fa) := PS.imp (ps_asg (ev_fz he) (pg_sub ho hk set_list ha) hs hw h1) fun D σ H h => read_put h
structure DefOk (P : Program) (w : World) (K : PySem.W.Frag) (mg : Str → Option Value) (base : Heap) (x : Str) (k : Nat) (ps : List Str) (F : Fx) : Prop where
  ex : ∃ (f : Addr) (fd : FuncData), mg x = some (.ref f) ∧ PySem.W.keepIn K (.ref f) = true ∧ Binds K fd ps [] ∧ FnOk P w K mg base CX0 k f fd ps (spV K F)
structure DF (K : PySem.W.Frag) (mg : Str → Option Value) (x : Str) (st : Stmt) : Prop where
  ex : ∃ (f : Addr) (fd : FuncData), mg x = some (.ref f) ∧ Fun K x x st f fd
theorem def_of {P : Program} {w : World} {K : PySem.W.Frag} {mg : Str → Option Value} {base : Heap} {x : Str} {st : Stmt} {ps : List Str} {k : Nat} {F : Fx} (T : DF K mg x st) (h : ∀ (f : Addr) (fd : FuncData), Fun K x x st f fd → FnOk P w K mg base CX0 k f fd ps (spV K F))
    (hb : ∀ (kV doc pm : Value) (an : Option Addr) (cdv ct : Value) (us : List Value), us.length = ps.length →
      bindArgs (PySem.W.fnOf x x (defArgs st) (defBody st) (defScope st) .none kV doc pm an cdv ct) ⟨us, []⟩ = pure (ps.zip us)) : DefOk P w K mg base x k ps F := by
  obtain ⟨f, fd, hm, G⟩ := T.ex
  exact ⟨f, fd, hm, G.kp, G.binds hb, h f fd G⟩
theorem ev_call {k : Nat} {ps : List Str} {F : Fx} (h : DefOk X.prog X.w X.K X.mg X.base x k ps F) (hr : Room k X.A) (ha : PAv X (e :: es) fs) (hg : Gl X x := by rfl) (hdb : (x == ("__debug__" : Str)) = false := by decide)
    (he : starEach (e :: es) X.env = (false, eval e X.env) :: starEach es X.env := by rfl) (hpl : (backTo pos (starEach es X.env)).any (·.1) = false := by rfl) : PEv X (.Call (.Name x p) (e :: es) [] pos) (bCall F fs) := by
  obtain ⟨f, fd, hm, hk, hb, G⟩ := h.ex
  exact PE.imp (pe_call G hr hg hm hk hb .nil pass0 ha hdb he hpl) fun σ H Q q => read_call q
end
end M
namespace M
open PySem PySem.Spec PyProof.Rows L2 TL
def mulT : D → D → Option RV
  | .tup xs, .int k => if xs.isEmpty = false ∧ 1 ≤ k ∧ k ≤ 1000 ∧ xs.length ≤ 1000 then some (.d (.tup (List.replicate k.toNat xs).flatten)) else none
  | _, _ => none
theorem tuple_mulOne (l : Addr) (items : Array Value) (n : Nat) (sl : Array (Option Value)) (dd : Option Addr) (u : Tok) :
    Meets (Builtin.«tuple.__mul__» ⟨[.ref l, .int 1 u], []⟩) (fun _ R s => s.heap.get? l = some { cls := .type "tuple", dict := dd, data := .seq items n, slots := sl } ∧
      R (.ok (.ret (Value.ref l))) s) :=
  .of_wp fun prog w A R s h => by
    obtain ⟨hp, g, d, tk, os⟩ := s
    obtain ⟨hl, h⟩ := h
    have f1 := AutoSeq1.idx_int
    have c0 : (decide ((1 : Int) < -(2 ^ 63)) || decide ((1 : Int) ≥ 2 ^ 63)) = false := by decide
    have c1 : (items.isEmpty || ((1 : Int) == 1)) = true := by simp
    wp_walk using wpAny_loadPart' hl
    exact ⟨_, rfl, h⟩
def rRep1 (K : PySem.W.Frag) : R2 := fun x y H Q => ∃ l xs, x = .ref l ∧ y = .int 1 ∧ SqT K H l xs ∧ Q (.ref l) H
theorem op_rep1 {X : Cx} : OpR X (binaryOp .Mult) (rRep1 X.K) := by
  intro pins s σ H x y v u Q I rx ry h
  obtain ⟨l, xs, rfl, rfl, hT, q⟩ := h
  cases rx
  obtain ⟨t, rfl⟩ := ry
  obtain ⟨its, r, ⟨⟨cls, dd, data, sl⟩, ho, hc, n, hd⟩, hs⟩ := I.tuple hT
  simp only at hc hd
  subst hc hd
  refine wpAny_binaryOp_repeat_ref (T := "tuple") (U := "int") (by decide) ⟨_, ho, rfl⟩ (fun s' => typeIs_int s' 1 t) noFill_tuple_mul F.fills_int_mul F.slot_int_rmul repeat_tuple F.slot_int_index.lookup
    (call_meets F.slot_int_rmul (typeIs_int s 1 t) F.entry_int_rmul (F.args_int_rmul_2 _ _) (int_rmul_tuple 1 t l its.toArray n dd sl)
      ⟨ho, rfl, ⟨_, ho, rfl⟩, call_meets F.slot_tuple_mul ⟨_, ho, rfl⟩ F.entry_tuple_mul (F.args_tuple_mul_2 _ _) (tuple_mulOne l its.toArray n sl dd t) ⟨ho, ?_⟩⟩)
  exact ⟨.ref l, H, I, rfl, q⟩
theorem RDs.rep {K : PySem.W.Frag} {G : Hp} {ds : List D} {vs : List V} (h : RDs K G ds vs) : ∀ n : Nat, RDs K G (List.replicate n ds).flatten (List.replicate n vs).flatten
  | 0 => rfl
  | n + 1 => by
    rw [List.replicate_succ, List.replicate_succ, List.flatten_cons, List.flatten_cons]
    exact h.append (RDs.rep h n)
theorem opd_mulT {K : PySem.W.Frag} : OpD K (fun x y H Q => rRep1 K x y H Q ∨ rRepT K x y H Q) mulT := by
  intro G H x y dx dy z s hx hy e Q k
  unfold mulT at e
  split at e
  · split at e
    rotate_left
    · cases e
    rename_i xs n h
    cases e
    obtain ⟨p, vs, e1, e2, e3⟩ := hx.tup s
    have hne : vs ≠ [] := fun z => by
      have := e3.length
      rw [z] at this
      have : xs = [] := List.eq_nil_of_length_eq_zero this.symm
      rw [this] at h
      exact absurd h.1 (by simp)
    by_cases h1 : n = 1
    · subst h1
      refine .inl ⟨p, vs, e1, hy.int, e2, ?_⟩
      rw [← e1]
      have : (List.replicate (1 : Int).toNat xs).flatten = xs := by simp
      rw [this] at k
      exact k _ _ (.same hx.rdT)
    · exact .inr ⟨p, n, vs, e1, hy.int, e2, hne, by omega, h.2.2.1, by rw [e3.length]; exact h.2.2.2, fun q hq => k _ _ (.tup hq (e3.rep _))⟩
  · cases e
theorem ev_mulT {X : Cx} {a b : Expr} {fa fb : Ex} {pos : Pos} (ha : PEv X a fa) (hb : PEv X b fb) : PEv X (.BinOp a .Mult b pos) (bOp mulT fa fb) := ev_op (OpR.or op_rep1 op_repT) opd_mulT ha hb
theorem CallR_or {X : Cx} {f : Value} {r r' : List V → Hp → VK → Prop} (h : CallR X f r) (h' : CallR X f r') : CallR X f (fun x H Q => r x H Q ∨ r' x H Q) := CallR.or h h'
end M
namespace M
open PySem PySem.Spec PyProof.Rows L2 TL
def iRange3 (f g h : Ex) : Ix := fun ρ => match f ρ with
  | some (.d (.int i), ρ1) => match g ρ1 with
    | some (.d (.int j), ρ2) => match h ρ2 with
      | some (.d (.int c), ρ3) => if c = -1 ∧ -(2 ^ 62) ≤ i ∧ i < 2 ^ 62 ∧ -(2 ^ 62) ≤ j ∧ j < 2 ^ 62 then some ((List.range (i - j).toNat).map fun k : Nat => D.int (i + (k : Int) * (-1)), ρ3) else none
      | _ => none
    | _ => none
  | _ => none
theorem jok_rangeC {K : PySem.W.Frag} {lo c : Int} {n : Nat} {G : Hp} : JOk K (Itc lo c n) G ((List.range n).map fun k : Nat => D.int (lo + (k : Int) * c)) := fun H i s => by
  refine ⟨fun h => by
    have h : i < n := by simpa using h
    exact h, fun h => by
    have h : n ≤ i := by simpa using h
    exact h, fun v H' x y e => ?_⟩
  obtain ⟨rfl, rfl⟩ := y
  simp only [List.getElem?_map] at e
  rw [List.getElem?_range (by
    by_cases h : i < n
    · exact h
    · rw [List.getElem?_eq_none (by simpa using h)] at e; cases e)] at e
  cases e
  exact .same rfl
section
variable {X : Cx} {a b c e : Expr} {es : List Expr} {fa fb fc : Ex} {fs : Ax} {pos p : Pos} {x : Str}
theorem iv_range3 {tg : Expr} (hg : Gl X "range") (hm : X.mg "range" = none) (h : PEv X a fa) (h2 : PEv X b fb) (h3 : PEv X c fc) (hst : starEach [a, b, c] X.env = (false, eval a X.env) :: starEach [b, c] X.env := by rfl) (hst2 : starEach [b, c] X.env = (false, eval b X.env) :: starEach [c] X.env := by rfl)
    (hst3 : starEach [c] X.env = (false, eval c X.env) :: starEach [] X.env := by rfl) (hpl : (backTo pos (starEach [b, c] X.env)).any (·.1) = false := by rfl) :
    PIv X tg (.Call (.Name "range" p) [a, b, c] [] pos) (iRange3 fa fb fc) := by
  refine iv_of (pi_range3 hg hm (pa_cons h (pa_cons h2 (pa_cons h3 pa_nil hst3) hst2) hst) hst hpl) fun σ H R h => ?_
  obtain ⟨F, G, ρ, xs, ρ', R0, e, k⟩ := h
  unfold iRange3 at e
  split at e
  rotate_left
  · cases e
  rename_i i ρ1 e1
  split at e
  rotate_left
  · cases e
  rename_i j ρ2 e2
  split at e
  rotate_left
  · cases e
  rename_i c ρ3 e3
  split at e
  rotate_left
  · cases e
  rename_i hb
  cases e
  obtain ⟨hc, b1, b2, b3, b4⟩ := hb
  subst hc
  refine ⟨F, G, ρ, _, ρ1, R0, e1, fun v G1 H1 s1 R1 q1 => ⟨F, G1, ρ1, _, ρ2, R1, e2, fun w G2 H2 s2 R2 q2 => ⟨F, G2, ρ2, _, _, R2, e3, fun u G3 H3 s3 R3 q3 => ?_⟩⟩⟩
  cases (show v = .int i from q1)
  cases (show w = .int j from q2)
  cases (show u = .int (-1) from q3)
  exact ⟨i, j, -1, _, rfl, RgC.neg b1 b2 b3 b4, k _ H3 G3 ((s1.trans s2).trans s3) R3 jok_rangeC⟩
theorem sv_setComp2 {elt tg iter tg1 iter1 : Expr} {ifs ifs1 : List Expr} {scope : Scope} {own : List (Str × Nat)} {vs1 : List Nat} {pos spos : Pos} {it it1 : Ix} {bind bind1 : Bx} {is is1 : List Nat} {cond cond1 : Tx} {fe : Ex} {i : Nat} {y : Str} {py : Pos} (hc : X.calm = true) (hN : X.N.Nodup) (hy : X.N[i]? = some y) (hyl : X.env.scope.names.lookup y = some .local)
    (hsw : swapsWith (.ListComp elt [⟨tg, iter, ifs, 0⟩, ⟨tg1, iter1, ifs1, 0⟩] scope pos) (some (.Name y py)) spos.line X.env = pure true) (ok : BlkOk X.N X.env.scope scope own) (hi : PIv X tg iter it)
    (hg : ∀ (s : Shared) (H : Hp) (C : Addr) (cl : List (Str × Addr)) (fp : List Addr), PGv (X.blk s H scope (compEnvC scope cl C X.env) fp) tg bind is)
    (ht : ∀ (s : Shared) (H : Hp) (C : Addr) (cl : List (Str × Addr)) (fp : List Addr), PTsv (X.blk s H scope (compEnvC scope cl C X.env) fp) ifs cond)
    (hi1 : ∀ (s : Shared) (H : Hp) (C : Addr) (cl : List (Str × Addr)) (fp : List Addr), PIv (X.blk s H scope (compEnvC scope cl C X.env) fp) tg1 iter1 it1)
    (hg1 : ∀ (s : Shared) (H : Hp) (C : Addr) (cl : List (Str × Addr)) (fp : List Addr), PGv (X.blk s H scope (compEnvC scope cl C X.env) fp) tg1 bind1 is1)
    (ht1 : ∀ (s : Shared) (H : Hp) (C : Addr) (cl : List (Str × Addr)) (fp : List Addr), PTsv (X.blk s H scope (compEnvC scope cl C X.env) fp) ifs1 cond1)
    (he : ∀ (s : Shared) (H : Hp) (C : Addr) (cl : List (Str × Addr)) (fp : List Addr), PEv (X.blk s H scope (compEnvC scope cl C X.env) fp) elt fe)
    (his : (is.all fun i => (own.map (·.2)).contains i) = true := by rfl) (his1 : (is1.all fun i => vs1.contains i) = true := by rfl) (hvs : (vs1.all fun i => (own.map (·.2)).contains i) = true := by rfl)
    (hs : ∀ x, foldedSetIterable iter X.env x = pure x := by intro _; rfl) (hs1 : ∀ env x, foldedSetIterable iter1 env x = pure x := by intro _ _; rfl) :
    PSv X (.Assign [.Name y py] (.ListComp elt [⟨tg, iter, ifs, 0⟩, ⟨tg1, iter1, ifs1, 0⟩] scope pos) spos) (sSet i (bComp2 it (own.map (·.2)) vs1 bind cond it1 bind1 cond1 fe)) := by
  have hv : ∀ i ∈ vs1, i ∈ own.map (·.2) := fun i hi => by
    rw [List.all_eq_true] at hvs
    exact List.contains_iff_mem.mp (hvs i hi)
  refine PS.imp (ps_setLc2 (g := tG X.K bind is) (tt := tT X.K cond) (wi1 := tIt X.K it1) (g1 := tG X.K bind1 is1) (tt1 := tT X.K cond1) (te := tE X.K (bFz fe)) hc hN hy hyl hsw hi ok hv hg ht hi1 hg1 ht1 (fun s H C cl fp => ev_fz (he s H C cl fp)) hs hs1) fun D σ H h => ?_
  obtain ⟨F, G, ρ, fl, ρ', R, q, k⟩ := h
  unfold sSet at q
  split at q
  · cases q
  rename_i r ρ1 e1
  obtain ⟨ρ2, e2, eq⟩ := Option.map_eq_some_iff.mp q
  cases eq
  exact read_comp2 itd_self gd_self (fun i hi => by
    rw [List.all_eq_true] at his
    exact List.contains_iff_mem.mp (his i hi)) itd_self gd_self (fun i hi => by
    rw [List.all_eq_true] at his1
    exact List.contains_iff_mem.mp (his1 i hi)) hv ⟨F, G, ρ, r, ρ1, R, e1, fun v G1 H1 s1 R1 q => k _ G1 H1 s1 (R1.put q e2)⟩
def aApp (fs : Ax) (ds : List D) : Ax := fun ρ => match fs ρ with
  | none => none
  | some (rs, ρ1) => some (rs ++ ds.map RV.d, ρ1)
theorem RNs.app {K : PySem.W.Frag} {G : Hp} {σ : Sg} {ds : List D} {us : List V} (hd : RDs K G ds us) : ∀ {rs : List RV} {vs : List V}, RNs K G σ rs vs → RNs K G σ (rs ++ ds.map RV.d) (vs ++ us)
  | [], vs, h => by
    cases h
    have : ∀ {ds : List D} {us : List V}, RDs K G ds us → RNs K G σ (ds.map RV.d) us := by
      intro ds
      induction ds with
      | nil => intro us h; exact h
      | cons d ds ih =>
        rintro us ⟨x, xs, e1, e2, e3⟩
        exact ⟨x, xs, e1, e2, ih e3⟩
    exact this hd
  | r :: rs, vs, ⟨x, xs, e1, e2, e3⟩ => by
    subst e1
    exact ⟨x, xs ++ us, rfl, e2, RNs.app hd e3⟩
theorem read_callD {K : PySem.W.Frag} {f : Fx} {fs : Ax} {ds : List D} {dvs : List V} {E : XK} {σ : Sg} {H : Hp} {Q : VK} (hd : ∀ G, RDs K G ds dvs) (h : tE K (bCall f (aApp fs ds)) σ H Q) : tCall (spV K f) dvs E (tAr K fs) σ H Q := by
  have h := read_call (E := E) h
  obtain ⟨F, G, ρ, rs, ρ', R, e, k⟩ := h
  unfold aApp at e
  split at e
  · cases e
  rename_i rs0 ρ1 e1
  cases e
  refine ⟨F, G, ρ, rs0, _, R, e1, fun vs G1 H1 s1 R1 q1 => ?_⟩
  have this : spV K f ((vs ++ dvs) ++ []) H1 Q E := k (vs ++ dvs) G1 H1 s1 R1 (RNs.app (hd G1) q1)
  rw [List.append_nil] at this
  exact this
structure DefD (P : Program) (w : World) (K : PySem.W.Frag) (mg : Str → Option Value) (base : Heap) (x : Str) (k : Nat) (ps : List Str) (dvs : List V) (F : Fx) : Prop where
  ex : ∃ (f : Addr) (fd : FuncData), mg x = some (.ref f) ∧ PySem.W.keepIn K (.ref f) = true ∧ (∀ j, j ≤ dvs.length → ∃ ds, Vals (dvs.drop j) ds ∧ Binds K fd ps ds) ∧ FnOk P w K mg base CX0 k f fd ps (spV K F)
theorem ev_callD {k : Nat} {ps : List Str} {F : Fx} {dvs : List V} {ds : List D} (h : DefD X.prog X.w X.K X.mg X.base x k ps dvs F) (j : Nat) (hj : j ≤ dvs.length) (hd : ∀ G, RDs X.K G ds (dvs.drop j)) (hr : Room k X.A) (ha : PAv X (e :: es) fs) (hg : Gl X x := by rfl) (hdb : (x == ("__debug__" : Str)) = false := by decide)
    (he : starEach (e :: es) X.env = (false, eval e X.env) :: starEach es X.env := by rfl) (hpl : (backTo pos (starEach es X.env)).any (·.1) = false := by rfl) : PEv X (.Call (.Name x p) (e :: es) [] pos) (bCall F (aApp fs ds)) := by
  obtain ⟨f, fd, hm, hk, hb, G⟩ := h.ex
  obtain ⟨us, hu, hb⟩ := hb j hj
  exact PE.imp (pe_call G hr hg hm hk hb hu pass0 ha hdb he hpl) fun σ H Q q => read_callD hd q
structure DFD (K : PySem.W.Frag) (mg : Str → Option Value) (x : Str) (st : Stmt) (dvs : List V) : Prop where
  ex : ∃ (f : Addr) (fd : FuncData), mg x = some (.ref f) ∧ FunD K x x (defArgs st) (defBody st) (defScope st) dvs [] f fd
theorem fnD_ok {P : Program} {w : World} {K : PySem.W.Frag} {mg : Str → Option Value} {base : Heap} {x qual : Str} {pa : Arguments} {bd : List Stmt} {sc : Scope} {dvs : List V} {f : Addr} {fd : FuncData} {N ps : List Str} {k : Nat} {body : Sx} (F : FunD K x qual pa bd sc dvs [] f fd) (S : FnScope N ps sc)
    (hb : ∀ (cdv : Value) (A : Around) (outer : List Env) (s : Shared) (H : Hp) (E : XK), Room k (A.deeper (envOfC qual sc s.heap.objs.size f cdv)) →
      PBv (cxOf CX0 P w K mg base N qual sc f cdv A outer s H E).nox bd body) : FnOk P w K mg base CX0 (k + 1) f fd ps (spV K (runB N.length ps.length body)) := by
  have hl : ∀ args r as, runB N.length ps.length body args = some (r, as) → args.length = ps.length := fun args r as e => by
    unfold runB at e
    split at e
    · assumption
    · cases e
  refine F.ok S (fun vs H Q E h => ?_) (fun cdv A outer s H vs Q E hr h => ⟨tS K body, (hb cdv A outer s H E hr).nox, ?_⟩)
  · obtain ⟨F, G, args, r, as, R, ht, e, q⟩ := h
    have := R.len
    rw [← hl args r as e]
    simpa using this.symm
  · exact fn_body h
end
end M
namespace M
open PySem PySem.Spec PyProof.Rows L2 TL
def sNever : Sx := fun _ => none
theorem sv_never {X : Cx} {st : Stmt} : PSv X st sNever := PS.imp ps_never fun D σ H h => by
  obtain ⟨F, G, ρ, fl, ρ', R, q, k⟩ := h
  cases q
section
variable {X : Cx} {a b c e : Expr} {es : List Expr} {fa fb fc : Ex} {fs : Ax} {pos p p1 p2 tpos : Pos} {x y z : Str}
def bIsi2 (T U : String) (f : Ex) : Ex := fun ρ => match f ρ with
  | none => none
  | some (r, ρ1) => match pk ρ1 r.nrm with
    | none => none
    | some d => match tyD d with
      | none => none
      | some A => match kitB A T, kitB A U with
        | some true, _ => some (.d (.bl true), ρ1)
        | some false, some b => some (.d (.bl b), ρ1)
        | _, _ => none
theorem kit_any2 {K : PySem.W.Frag} {A T U : String} {b c : Bool} (h1 : kitB A T = some b) (h2 : b = true ∧ c = true ∨ b = false ∧ kitB A U = some c) : PySem.W.kitAny K (.type A) [.type T, .type U] = some c := by
  have e1 := kit_ty (K := K) h1
  unfold PySem.W.kitAny
  rw [e1]
  rcases h2 with ⟨rfl, rfl⟩ | ⟨rfl, h2⟩
  · rfl
  · have e2 := kit_ty (K := K) h2
    show PySem.W.kitAny K (.type A) [.type U] = some c
    unfold PySem.W.kitAny
    rw [e2]
    cases c <;> rfl
theorem ev_isi2 {T U : String} {j : Nat} (hg : Gl X "isinstance") (hm : X.mg "isinstance" = none) (hT : PE X (.Name y p1) (tC (.ty T))) (hU : PE X (.Name z p2) (tC (.ty U))) (ha : PEv X a fa)
    (he : starEach [a, .Tuple [.Name y p1, .Name z p2] j tpos] X.env = (false, eval a X.env) :: starEach [.Tuple [.Name y p1, .Name z p2] j tpos] X.env := by rfl) (hpl : (backTo pos (starEach [.Tuple [.Name y p1, .Name z p2] j tpos] X.env)).any (·.1) = false := by rfl)
    (he2 : starEach [.Tuple [.Name y p1, .Name z p2] j tpos] X.env = (false, eval (.Tuple [.Name y p1, .Name z p2] j tpos) X.env) :: starEach [] X.env := by rfl)
    (he3 : starEach [.Name y p1, .Name z p2] X.env = (false, eval (.Name y p1) X.env) :: starEach [.Name z p2] X.env := by rfl) (he4 : starEach [.Name z p2] X.env = (false, eval (.Name z p2) X.env) :: starEach [] X.env := by rfl) :
    PEv X (.Call (.Name "isinstance" p) [a, .Tuple [.Name y p1, .Name z p2] j tpos] [] pos) (bIsi2 T U fa) :=
  PE.imp (pe_callB call_isiT hg hm PyProof.Rows.boot_isinstance (pa_cons ha (pa_cons (pe_tup (pa_cons hT (pa_cons hU pa_nil he4) he3)) pa_nil he2) he) (by decide) (by decide) he hpl) fun σ H Q h => by
    obtain ⟨F, G, ρ, r, ρ', R, q, k⟩ := h
    unfold bIsi2 at q
    split at q
    · cases q
    rename_i ra ρ1 e1
    split at q
    · cases q
    rename_i d e2
    split at q
    · cases q
    rename_i A e3
    refine ⟨F, G, ρ, ra, ρ1, R, e1, fun v G1 H1 s1 R1 q1 => ?_⟩
    obtain ⟨G1', t1, R1', n1⟩ := nrm_step R1 q1
    refine ⟨by show 2 ≤ sizeLine; rw [sizeLine_num]; decide, fun l hl => ?_⟩
    have R2 : Rep X.K F (upd G1' l (.tup [.ty T, .ty U])) (upd H1 l (.tup [.ty T, .ty U])) σ ρ1 := R1'.newG hl
    have ro := pk_ro R2 (n1.mono (Same.updN (R1'.gNone hl))) e2
    have fin : ∀ b : Bool, (PySem.W.kitAny X.K (.type A) [.type T, .type U] = some b) → q = q → (some (r, ρ') = some (RV.d (.bl b), ρ1)) → rIsiT X.K [v, .ref l] (upd H1 l (.tup [.ty T, .ty U])) Q := fun b hb _ hr => by
      cases hr
      exact ⟨v, l, [.ty T, .ty U], .type A, [.type T, .type U], b, rfl, upd_same, .cons (.ty T) (.cons (.ty U) .nil), ty_of R2.gh ro e3, hb, k _ _ _ ((s1.trans t1).trans (Same.updN (R1'.gNone hl))) R2 rfl⟩
    split at q
    · rename_i h1
      exact fin true (kit_any2 h1 (.inl ⟨rfl, rfl⟩)) rfl q.symm
    · rename_i b h1 h2
      exact fin b (kit_any2 h1 (.inr ⟨rfl, h2⟩)) rfl q.symm
    · cases q
def bFld (f : Str) (fa : Ex) : Ex := fun ρ => match fa ρ with
  | some (.d (.ins _ ns xs), ρ1) => ((ns.zip xs).lookup f).map fun d => (.d d, ρ1)
  | _ => none
theorem look_rds {K : PySem.W.Frag} {G : Hp} {f : Str} {d : D} : ∀ {ns : List Str} {xs : List D} {fs : List (Str × V)}, fs.map (·.1) = ns → RDs K G xs (fs.map (·.2)) → (ns.zip xs).lookup f = some d → f ∈ ns ∧ ∃ v, fs.lookup f = some v ∧ RD K G d v
  | [], xs, fs, _, _, e => by simp at e
  | n :: ns, [], fs, _, _, e => by simp at e
  | n :: ns, x :: xs, [], h, _, _ => by simp at h
  | n :: ns, x :: xs, (m, v) :: fs, h, ⟨u, us, e1, e2, e3⟩, e => by
    simp only [List.map_cons, List.cons.injEq] at h e1
    obtain ⟨rfl, h⟩ := h
    obtain ⟨rfl, rfl⟩ := e1
    simp only [List.zip_cons_cons, List.lookup_cons] at e ⊢
    by_cases hf : (f == m) = true
    · rw [hf] at e ⊢
      cases e
      exact ⟨by rw [eq_of_beq hf]; exact List.mem_cons_self, v, rfl, e2⟩
    · have hf : (f == m) = false := by simpa using hf
      rw [hf] at e ⊢
      obtain ⟨h1, v', h2, h3⟩ := look_rds h e3 e
      exact ⟨List.mem_cons_of_mem _ h1, v', h2, h3⟩
theorem ev_fld {f : Str} (ha : PEv X a fa) (hb : attributeBase a f X.env (eval a X.env) = eval a X.env := by rfl) : PEv X (.Attribute a f pos) (bFld f fa) := PE.imp (pe_fld ha hb) fun σ H Q h => by
  obtain ⟨F, G, ρ, r, ρ', R, q, k⟩ := h
  unfold bFld at q
  split at q
  rotate_left
  · cases q
  rename_i nm ns xs ρ1 e1
  obtain ⟨d, ez, eq⟩ := Option.map_eq_some_iff.mp q
  cases eq
  refine ⟨F, G, ρ, _, _, R, e1, fun v G1 H1 s1 R1 q1 => ?_⟩
  obtain ⟨a, C, dx, fs, rfl, h1, h2, h3, h4, h5⟩ := q1
  obtain ⟨hf, u, h6, h7⟩ := look_rds h4 h5 ez
  exact ⟨a, C, dx, fs, u, rfl, R1.gh _ _ h1, h2, h3 f hf, h6, k u G1 H1 s1 R1 h7⟩
end
structure Ob (K : PySem.W.Frag) (F : Fm) (G H : Hp) (σ : Sg) (ρ : Sl) (o C dx : Addr) (fs : List (Str × D)) (fv : List (Str × V)) : Prop where
  rep : Rep K F G H σ ρ
  hp : H o = some (.ins C dx fv)
  gp : G o = none
  fp : F.hp o = none
  ns : ∀ i b ys, oAt ρ i b ys → ¬ vAt σ i (.ref o)
  nm : fv.map (·.1) = fs.map (·.1)
  rds : RDs K G (fs.map (·.2)) (fv.map (·.2))
abbrev Ib := Sl → List (Str × D) → Option (Fl × Sl × List (Str × D))
def tI (K : PySem.W.Frag) (o C dx : Addr) (f : Ib) : TS := fun D σ H => ∃ F G ρ fs fv fl ρ' fs', Ob K F G H σ ρ o C dx fs fv ∧ f ρ fs = some (fl, ρ', fs') ∧
  ∀ σ' G' H' fv', Same G G' → Ob K F G' H' σ' ρ' o C dx fs' fv' → match fl with
    | .nx => D.nx σ' H'
    | _ => False
def PIb (X : Cx) (o C dx : Addr) (st : List Stmt) (f : Ib) : Prop := PSs X st (tI X.K o C dx f)
theorem Ob.lend {K : PySem.W.Frag} {F : Fm} {G H : Hp} {σ : Sg} {ρ : Sl} {o C dx : Addr} {fs : List (Str × D)} {fv : List (Str × V)} (a : Ob K F G H σ ρ o C dx fs fv) : Rep K ⟨upd F.hp o (.ins C dx fv), F.par⟩ G H σ ρ := a.rep.lend a.hp a.gp a.ns
theorem Ob.of {K : PySem.W.Frag} {F : Fm} {G H G0 : Hp} {σ : Sg} {ρ : Sl} {o C dx : Addr} {fs : List (Str × D)} {fv : List (Str × V)} (R : Rep K ⟨upd F.hp o (.ins C dx fv), F.par⟩ G H σ ρ) (fp : F.hp o = none) (nm : fv.map (·.1) = fs.map (·.1)) (r : RDs K G0 (fs.map (·.2)) (fv.map (·.2))) (s : Same G0 G) : Ob K F G H σ ρ o C dx fs fv := by
  obtain ⟨R', h1, h2, h3⟩ := R.back fp
  exact ⟨R', h1, h2, fp, h3, nm, RDs.mono s _ _ r⟩
def iSt (f : Sx) (g : Ib) : Ib := fun ρ fs => match f ρ with
  | some (.nx, ρ1) => g ρ1 fs
  | _ => none
def iNil : Ib := fun ρ fs => some (.nx, ρ, fs)
def putD (f : Str) (d : D) : List (Str × D) → List (Str × D)
  | [] => [(f, d)]
  | (n, x) :: r => if n = f then (n, d) :: r else (n, x) :: putD f d r
def selfAt (ρ : Sl) (o : Addr) : Bool := match ρ[0]? with
  | some (some (SV.d (D.ptr (V.ref q)))) => decide (q = o)
  | _ => false
def iFld (o : Addr) (f : Str) (fe : Ex) (g : Ib) : Ib := fun ρ fs => match bFz fe ρ with
  | some (.d d, ρ1) => if fs.length < 1000 ∧ selfAt ρ1 o = true then g ρ1 (putD f d fs) else none
  | _ => none
theorem putF_nm {f : Str} {v : V} {d : D} : ∀ {fv : List (Str × V)} {fs : List (Str × D)}, fv.map (·.1) = fs.map (·.1) → (putF f v fv).map (·.1) = (putD f d fs).map (·.1)
  | [], [], _ => rfl
  | [], _ :: _, h => by simp at h
  | _ :: _, [], h => by simp at h
  | (n, u) :: fv, (m, x) :: fs, h => by
    simp only [List.map_cons, List.cons.injEq] at h
    obtain ⟨rfl, h⟩ := h
    unfold putF putD
    by_cases e : n = f
    · simp [e, h]
    · simp [e, putF_nm (f := f) (v := v) (d := d) h]
theorem putF_rds {K : PySem.W.Frag} {G : Hp} {f : Str} {v : V} {d : D} (hv : RD K G d v) : ∀ {fv : List (Str × V)} {fs : List (Str × D)}, fv.map (·.1) = fs.map (·.1) → RDs K G (fs.map (·.2)) (fv.map (·.2)) → RDs K G ((putD f d fs).map (·.2)) ((putF f v fv).map (·.2))
  | [], [], _, _ => ⟨v, [], rfl, hv, rfl⟩
  | [], _ :: _, h, _ => by simp at h
  | _ :: _, [], h, _ => by simp at h
  | (n, u) :: fv, (m, x) :: fs, h, ⟨w, ws, e1, e2, e3⟩ => by
    simp only [List.map_cons, List.cons.injEq] at h e1
    obtain ⟨rfl, h⟩ := h
    obtain ⟨rfl, rfl⟩ := e1
    unfold putF putD
    by_cases e : n = f
    · simp only [e, if_true]
      exact ⟨v, _, rfl, hv, e3⟩
    · simp only [e, if_false]
      exact ⟨u, _, rfl, e2, putF_rds hv h e3⟩
section
variable {X : Cx} {e : Expr} {st : Stmt} {rest : List Stmt} {fe : Ex} {f : Sx} {g : Ib} {o C dx : Addr} {pos pos' p1 : Pos} {fn x : Str}
theorem ib_nil : PIb X o C dx [] iNil := PSs.imp pss_nil fun D σ H h => by
  obtain ⟨F, G, ρ, fs, fv, fl, ρ', fs', a, q, k⟩ := h
  cases q
  exact k σ G H fv (Same.refl G) a
theorem ib_st (h : PSv X st f) (hr : PIb X o C dx rest g) : PIb X o C dx (st :: rest) (iSt f g) := PSs.imp (pss_cons h hr) fun D σ H h => by
  obtain ⟨F, G, ρ, fs, fv, fl, ρ', fs', a, q, k⟩ := h
  unfold iSt at q
  split at q
  rotate_left
  · cases q
  rename_i ρ1 e1
  refine ⟨_, G, ρ, .nx, ρ1, a.lend, e1, fun σ1 G1 H1 s1 R1 => ?_⟩
  exact ⟨F, G1, ρ1, fs, fv, fl, ρ', fs', Ob.of R1 a.fp a.nm a.rds s1, q, fun σ2 G2 H2 fv' s2 a2 => k σ2 G2 H2 fv' (s1.trans s2) a2⟩
theorem ib_fld (hc : Cls X.K C) (hn : NoAttr X.K C fn) (he : PEv X e fe) (ho : PE X (.Name x p1) (tVar 0)) (hr : PIb X o C dx rest g)
    (hs : swapsWith e (some (.Attribute (.Name x p1) fn pos')) pos.line X.env = pure false := by rfl) :
    PIb X o C dx (.Assign [.Attribute (.Name x p1) fn pos'] e pos :: rest) (iFld o fn fe g) :=
  PSs.imp (pss_cons (ps_fld ho (ev_fz he) hs) hr) fun D σ H h => by
  obtain ⟨F, G, ρ, fs, fv, fl, ρ', fs', a, q, k⟩ := h
  unfold iFld at q
  split at q
  rotate_left
  · cases q
  rename_i d ρ1 e1
  split at q
  rotate_left
  · cases q
  rename_i hl
  have hρ : dAt ρ1 0 (.ptr (.ref o)) := by
    have hz := hl.2
    unfold selfAt at hz
    split at hz
    · rename_i q' e'
      rw [← of_decide_eq_true hz]; exact e'
    · cases hz
  refine ⟨_, G, ρ, _, ρ1, a.lend, e1, fun v G1 H1 s1 R1 q1 => ?_⟩
  have a1 := Ob.of R1 a.fp a.nm a.rds s1
  obtain ⟨v0, w1, w2⟩ := a1.rep.dat 0 _ hρ
  cases (show v0 = .ref o from w2)
  refine ⟨.ref o, w1, o, C, dx, fv, rfl, a1.hp, hc, hn, ?_, ?_⟩
  · have := congrArg List.length a1.nm
    simp at this; omega
  · exact ⟨F, G1, ρ1, putD fn d fs, putF fn v fv, fl, ρ', fs', ⟨a1.rep.poke a1.gp a1.fp a1.ns, upd_same, a1.gp, a1.fp, a1.ns, putF_nm a1.nm, putF_rds q1 a1.nm a1.rds⟩, q, fun σ2 G2 H2 fv' s2 a2 => k σ2 G2 H2 fv' (s1.trans s2) a2⟩
end
def runI (n : Nat) (B : Ib) (o : Addr) (ds : List D) : Option (List (Str × D)) := match B ((some (.d (.ptr (.ref o))) :: ds.map fun d => some (.d d)) ++ List.replicate (n - (ds.length + 1)) none) [] with
  | some (.nx, _, fs) => some fs
  | _ => none
def spI (K : PySem.W.Frag) (C : Addr) (m : Nat) (g : List D → Option (List (Str × D))) : Sp := fun vs H Q E => ∃ o dx us F G ds fs, vs = .ref o :: us ∧ ds.length = m ∧ H o = some (.ins C dx []) ∧ G o = none ∧ F.hp o = none ∧ Rep K F G H [] [] ∧ RDs K G ds us ∧ g ds = some fs ∧
  ∀ G' H' fv, Same G G' → Ob K F G' H' [] [] o C dx fs fv → Q .non H'
theorem rds_rep {K : PySem.W.Frag} {F : Fm} {G H : Hp} (R : Rep K F G H [] []) {ds : List D} {us : List V} (h : RDs K G ds us) (n : Nat) : Rep K F G H (us.map some ++ List.replicate n none) ((ds.map fun d => some (SV.d d)) ++ List.replicate n none) := by
  have e : (ds.map fun d => some (SV.d d)) = (ds.map SV.d).map some := by rw [List.map_map]; rfl
  rw [e]
  have hget : ∀ {i : Nat} {x : SV}, (ds.map SV.d)[i]? = some x → ∃ d, x = .d d ∧ ds[i]? = some d := fun {i x} q => by
    rw [List.getElem?_map] at q
    obtain ⟨d, h1, h2⟩ := Option.map_eq_some_iff.mp q
    exact ⟨d, h2.symm, h1⟩
  refine ⟨R.gh, R.fh, R.fg, by simp [h.length], fun i x q => ?_, fun i b xs q => ?_, fun i j p b c xs ys _ q => ?_⟩
  · obtain ⟨d, h1, h2⟩ := hget (at_ext.mp q)
    cases h1
    obtain ⟨v, h3, h4⟩ := h.get h2
    exact ⟨v, at_ext.mpr h3, h4⟩
  · obtain ⟨d, h1, _⟩ := hget (at_ext.mp q)
    cases h1
  · obtain ⟨d, h1, _⟩ := hget (at_ext.mp q)
    cases h1
theorem Rep.nil {K : PySem.W.Frag} {F : Fm} {G H : Hp} {σ : Sg} {ρ : Sl} (R : Rep K F G H σ ρ) : Rep K F G H [] [] :=
  ⟨R.gh, R.fh, R.fg, rfl, fun i x q => (by cases q), fun i b x q => (by cases q), fun i j p b c xs ys _ q => (by cases q)⟩
theorem init_ok {P : Program} {w : World} {K : PySem.W.Frag} {mg : Str → Option Value} {base : Heap} {x qual : Str} {st : Stmt} {f C : Addr} {fd : FuncData} {N ps : List Str} {k : Nat} {g : List D → Option (List (Str × D))} {B : Addr → Ib} (hp : 1 ≤ ps.length) (F : Fun K x qual st f fd) (S : FnScope N ps (defScope st))
    (hg : ∀ o ds fs, ds.length + 1 = ps.length → g ds = some fs → runI N.length (B o) o ds = some fs)
    (hb : ∀ (o dx : Addr) (cdv : Value) (A : Around) (outer : List Env) (s : Shared) (H : Hp) (E : XK), Room k (A.deeper (envOfC qual (defScope st) s.heap.objs.size f cdv)) →
      PIb (cxOf CX0 P w K mg base N qual (defScope st) f cdv A outer s H E).nox o C dx (defBody st) (B o)) : FnOk P w K mg base CX0 (k + 1) f fd ps (spI K C (ps.length - 1) g) := by
  have hps : ∀ {ds : List D}, ds.length = ps.length - 1 → 1 ≤ ps.length → ds.length + 1 = ps.length := fun h h1 => by omega
  refine F.ok S (fun vs H Q E h => ?_) (fun cdv A outer s H vs Q E hr h => ?_)
  · obtain ⟨o, dx, us, F, G, ds, fs, rfl, hl, h1, h2, h3, R, hr, e, q⟩ := h
    have := hr.length
    simp; omega
  · obtain ⟨o, dx, us, F, G, ds, fs, rfl, hl, h1, h2, h3, R, hr', e, q⟩ := h
    refine ⟨_, hb o dx cdv A outer s H E hr, ?_⟩
    have er := hg o ds fs (hps hl hp) e
    unfold runI at er
    split at er
    rotate_left
    · cases er
    rename_i ρ' fs' e1
    cases er
    have hr2 : RDs K G (.ptr (.ref o) :: ds) (.ref o :: us) := ⟨_, _, rfl, rfl, hr'⟩
    have R0 := rds_rep R hr2 (N.length - (ds.length + 1))
    have hst : L2.start N (.ref o :: us) = (V.ref o :: us).map some ++ List.replicate (N.length - (ds.length + 1)) none := by
      unfold L2.start
      simp [hr'.length]
    rw [hst]
    refine ⟨F, G, _, [], [], .nx, ρ', fs, ⟨R0, h1, h2, h3, fun i b ys o1 => ?_, rfl, rfl⟩, e1, fun σ' G' H' fv' s' a' => ?_⟩
    · have e : ((.ptr (.ref o) :: ds).map fun d => some (SV.d d)) = ((.ptr (.ref o) :: ds).map SV.d).map some := by rw [List.map_map]; rfl
      rw [e] at o1
      have q := at_ext.mp o1
      rw [List.getElem?_map] at q
      obtain ⟨d, _, h2⟩ := Option.map_eq_some_iff.mp q
      cases h2
    · exact q G' H' fv' s' ⟨a'.rep.nil, a'.hp, a'.gp, a'.fp, fun i b ys q => (by cases q), a'.nm, a'.rds⟩
end M
namespace M
open PySem PySem.Spec PyProof.Rows L2 TL
structure MkOk (P : Program) (w : World) (K : PySem.W.Frag) (mg : Str → Option Value) (base : Heap) (x : Str) (k m : Nat) (g : List D → Option (List (Str × D))) : Prop where
  ex : ∃ (C f : Addr) (fd : FuncData) (ps : List Str), mg x = some (.ref C) ∧ Mk K C f ∧ Cls K C ∧ Binds K fd ps [] ∧ FnOk P w K mg base CX0 k f fd ps (spI K C m g) ∧ ∀ ds fs, g ds = some fs → ∀ n ∈ fs.map (·.1), NoAttr K C n
def bMk (nm : Str) (m : Nat) (g : List D → Option (List (Str × D))) (fs : Ax) : Ex := fun ρ => match fs ρ with
  | none => none
  | some (rs, ρ1) => match dsOf rs with
    | none => none
    | some ds => if ds.length = m then (g ds).map fun r => (.d (.ins nm (r.map (·.1)) (r.map (·.2))), ρ1) else none
section
variable {X : Cx} {a b c e : Expr} {es : List Expr} {fa fb fc : Ex} {fs : Ax} {pos p p1 p2 tpos : Pos} {x y z : Str}
theorem ev_make {k m : Nat} {g : List D → Option (List (Str × D))} {nm : Str} (h : MkOk X.prog X.w X.K X.mg X.base x k m g) (hr : Room (k + 1) X.A) (ha : PAv X (e :: es) fs) (hg : Gl X x := by rfl) (hdb : (x == ("__debug__" : Str)) = false := by decide)
    (he : starEach (e :: es) X.env = (false, eval e X.env) :: starEach es X.env := by rfl) (hpl : (backTo pos (starEach es X.env)).any (·.1) = false := by rfl) : PEv X (.Call (.Name x p) (e :: es) [] pos) (bMk nm m g fs) := by
  obtain ⟨C, f, fd, ps, hm, hM, hC, hb, G0, hn⟩ := h.ex
  refine PE.imp (pe_make hM G0 hr hg hm hb .nil pass0 ha hdb he hpl) fun σ H Q h => ?_
  obtain ⟨F, G, ρ, r, ρ', R, q, k⟩ := h
  unfold bMk at q
  split at q
  · cases q
  rename_i rs ρ1 e1
  split at q
  · cases q
  rename_i ds e2
  split at q
  rotate_left
  · cases q
  rename_i hl
  obtain ⟨fds, ez, eq⟩ := Option.map_eq_some_iff.mp q
  cases eq
  refine ⟨F, G, ρ, rs, _, R, e1, fun vs G1 H1 s1 R1 q1 => fun o dx ho hdx hne => ?_⟩
  rw [List.append_nil]
  have hr1 := ds_of q1 e2
  have go := R1.gNone ho
  have gd := R1.gNone hdx
  have H2o : (upd (upd H1 dx (.own o)) o (.ins C dx [])) o = some (.ins C dx []) := upd_same
  let H2 : Hp := upd (upd H1 dx (.own o)) o (.ins C dx [])
  have old : ∀ b u, H1 b = some u → H2 b = some u := fun b u z => by
    show upd (upd H1 dx (.own o)) o (.ins C dx []) b = some u
    rw [upd_ne (ne_of_none z ho), upd_ne (ne_of_none z hdx)]; exact z
  let F' : Fm := ⟨fun b => if G1 b = none ∧ b ≠ o then H2 b else none, F.par⟩
  have pf : ∀ b u, G1 b = none → b ≠ o → H2 b = some u → F'.hp b = some u := fun b u z1 z2 z3 => by
    show (if G1 b = none ∧ b ≠ o then H2 b else none) = some u
    rw [if_pos ⟨z1, z2⟩]; exact z3
  have fp : ∀ b u, F'.hp b = some u → G1 b = none ∧ b ≠ o ∧ H2 b = some u := fun b u z => by
    have z : (if G1 b = none ∧ b ≠ o then H2 b else none) = some u := z
    split at z
    · rename_i w; exact ⟨w.1, w.2, z⟩
    · cases z
  have R2 : Rep X.K F' G1 H2 [] [] := ⟨fun b u z => old b u (R1.gh b u z), fun b u z => (fp b u z).2.2, fun b u z => (fp b u z).1, rfl, fun i x q => (by cases q), fun i b x q => (by cases q), fun i j p b c xs ys _ q => (by cases q)⟩
  refine ⟨o, dx, vs, F', G1, ds, fds, rfl, hl, H2o, go, ?_, R2, hr1, ez, fun G' H' fv s' ob => ⟨rfl, ?_⟩⟩
  · show (if G1 o = none ∧ o ≠ o then H2 o else none) = none
    rw [if_neg (fun z => z.2 rfl)]
  · have sG := Same.updN (o := .ins C dx fv) ob.gp
    have at1 : ∀ b u, H1 b = some u → G1 b = none → H' b = some u ∧ (upd G' o (.ins C dx fv)) b = none := fun b u z1 z2 => by
      have hb : b ≠ o := ne_of_none z1 ho
      have z := pf b u z2 hb (old b u z1)
      exact ⟨ob.rep.fh b u z, by rw [upd_ne hb]; exact ob.rep.fg b u z⟩
    refine k (.ref o) (upd G' o (.ins C dx fv)) H' ((s1.trans s').trans sG) ⟨fun b u z => ?_, fun b u z => (at1 b u (R1.fh b u z) (R1.fg b u z)).1, fun b u z => (at1 b u (R1.fh b u z) (R1.fg b u z)).2, R1.len, fun i x z => ?_, fun i b xs z => ?_, R1.sep⟩ ?_
    · unfold upd at z
      split at z <;> rename_i hb
      · cases z; rw [hb]; exact ob.hp
      · exact ob.rep.gh b u z
    · obtain ⟨v, w1, w2⟩ := R1.dat i x z
      exact ⟨v, w1, RD.mono (s'.trans sG) _ _ w2⟩
    · obtain ⟨p, us, w1, w2, w3, w4, w5, w6⟩ := R1.own i b xs z
      obtain ⟨y1, y2⟩ := at1 p _ w2 w3
      exact ⟨p, us, w1, y1, y2, w4, RDs.mono (s'.trans sG) _ _ w5, w6⟩
    · exact ⟨o, C, dx, fv, rfl, upd_same, hC, hn ds fds ez, ob.nm, RDs.mono sG _ _ ob.rds⟩
def PKv (X : Cx) (kws : List Keyword) (f : Ax) : Prop := PK X kws (tAr X.K f)
theorem kv_nil : PKv X [] aNil := ⟨fun pos pins s σ H Q I h => by
  obtain ⟨F, G, ρ, rs, ρ', R, e, k⟩ := h
  cases e
  exact pk_nil.run pos pins s σ H Q I (k [] G H (Same.refl G) R rfl)⟩
theorem PK.imp {X : Cx} {e : List Keyword} {t t' : TA} (h : PK X e t) (i : ∀ σ H Q, t' σ H Q → t σ H Q) : PK X e t' := ⟨fun pos pins s σ H Q I q => h.run pos pins s σ H Q I (i σ H Q q)⟩
theorem kv_cons {kws : List Keyword} {n : Option Str} {kpos : Pos} {f : Ax} (he : PEv X e fa) (hs : PKv X kws f) : PKv X (⟨n, e, kpos⟩ :: kws) (aCons fa f) := PK.imp (pk_cons he hs) fun σ H Q h => by
  obtain ⟨F, G, ρ, rs, ρ', R, q, k⟩ := h
  unfold aCons at q
  split at q
  · cases q
  rename_i ra ρ1 e1
  split at q
  · cases q
  rename_i rb ρ2 e2
  cases q
  refine ⟨F, G, ρ, ra, ρ1, R, e1, fun x G1 H1 s1 R1 q1 => ?_⟩
  obtain ⟨G1', t1, R1', n1⟩ := nrm_step R1 q1
  refine ⟨F, G1', ρ1, rb, _, R1', e2, fun ys G2 H2 s2 R2 q2 => ?_⟩
  exact k _ G2 H2 ((s1.trans t1).trans s2) R2 ⟨x, ys, rfl, n1.mono s2, q2⟩
structure DefKw (P : Program) (w : World) (K : PySem.W.Frag) (mg : Str → Option Value) (base : Heap) (x : Str) (k : Nat) (ps : List Str) (n : Nat) (F : Fx) : Prop where
  ex : ∃ (f : Addr) (fd : FuncData), mg x = some (.ref f) ∧ PySem.W.keepIn K (.ref f) = true ∧ KBn K fd ps n (ps.drop n) (fun us ws => us ++ ws) (fun vs zs => vs ++ zs) ∧ FnOk P w K mg base CX0 k f fd ps (spV K F)
theorem def_kw {P : Program} {w : World} {K : PySem.W.Frag} {mg : Str → Option Value} {base : Heap} {x : Str} {st : Stmt} {ps : List Str} {k n : Nat} {F : Fx} (T : DF K mg x st) (h : ∀ (f : Addr) (fd : FuncData), Fun K x x st f fd → FnOk P w K mg base CX0 k f fd ps (spV K F))
    (hb : ∀ (kV doc pm : Value) (an : Option Addr) (cdv ct : Value) (us ws : List Value), us.length = n → ws.length = (ps.drop n).length →
      bindArgs (PySem.W.fnOf x x (defArgs st) (defBody st) (defScope st) .none kV doc pm an cdv ct) ⟨us, (ps.drop n).zip ws⟩ = pure (ps.zip (us ++ ws))) : DefKw P w K mg base x k ps n F := by
  obtain ⟨f, fd, hm, G⟩ := T.ex
  refine ⟨f, fd, hm, G.kp, ⟨fun s us ws _ l1 l2 => ?_, fun r1 r2 => r1.append r2⟩, h f fd G⟩
  obtain ⟨oc, od, kV, doc, pm, an, cdv, ct, osl, rfl, lk, hcd⟩ := G.ex
  exact .of_eq (hb kV doc pm an cdv ct us ws l1 l2)
theorem ev_callK0 {kws : List Keyword} {k : Nat} {ps : List Str} {F : Fx} (h : DefKw X.prog X.w X.K X.mg X.base x k ps 0 F) (hr : Room k X.A) (ha : PKv X kws fs) (hg : Gl X x := by rfl)
    (hall : (backToKw pos (keywordEach kws X.env)).all (·.1.isSome) = true := by rfl) (hks : (backToKw pos (keywordEach kws X.env)).filterMap (·.1) = ps := by rfl)
    (hdb : (x == ("__debug__" : Str)) = false := by decide)
    (hpl : ((backTo pos (starEach [] X.env)).any (·.1) || (backToKw pos (keywordEach kws X.env)).any (·.1.isNone)) = false := by rfl) : PEv X (.Call (.Name x p) [] kws pos) (bCall F fs) := by
  obtain ⟨f, fd, hm, hk, hb, G0⟩ := h.ex
  refine ⟨fun pins s σ H Q I h => ?_⟩
  have h := read_call (E := E0) h
  refine wpAny_Call_Name_kw (ld_glob I hg hm ?_ hdb)
  refine PySem.W.callWith_KW0 (h₀ := X.base) I.ok.mod.kin hk hall (thn (ha.run pos pins s σ H _ I h) fun ws s2 ⟨zs, H2, I2, rz, q2⟩ => ⟨I2.kIn, ?_⟩) hpl
  rw [hks]
  have q2 : spV X.K F (zs ++ []) H2 Q E0 := q2
  rw [List.append_nil] at q2
  have hl : zs.length = ps.length := G0.len _ _ _ _ q2
  exact run_fnN (ps := ps) (ks := ps) (gV := fun vs zs => vs ++ zs) (us := []) (vs := []) G0 hr hb pass0 I2 .nil rz rfl hl q2
end
end M
namespace M
open PySem PySem.Spec PyProof.Rows L2 TL
section
variable {P : Program} {w : World} {K : PySem.W.Frag} {mg : Str → Option Value} {base : Heap}
def F_none : Fx := fun _ => none
theorem fn_none {x qual : Str} {st : Stmt} {f : Addr} {fd : FuncData} {N ps : List Str} {k : Nat} (F : Fun K x qual st f fd) (S : FnScope N ps (defScope st)) : FnOk P w K mg base CX0 (k + 1) f fd ps (spV K F_none) :=
  F.ok S (fun vs H Q E h => by
    obtain ⟨F, G, args, r, as, R, ht, e, q⟩ := h
    cases e) (fun cdv A outer s H vs Q E hr h => by
    obtain ⟨F, G, args, r, as, R, ht, e, q⟩ := h
    cases e)
noncomputable def gI (n m : Nat) (B : Addr → Ib) (ds : List D) : Option (List (Str × D)) :=
  open Classical in if ds.length = m ∧ ∀ o, runI n (B o) o ds = runI n (B 0) 0 ds then runI n (B 0) 0 ds else none
theorem gI_run {n m : Nat} {B : Addr → Ib} {ds : List D} {fs : List (Str × D)} (o : Addr) (h : gI n m B ds = some fs) : runI n (B o) o ds = some fs := by
  unfold gI at h
  split at h
  · rename_i z; rw [z.2]; exact h
  · cases h
theorem gI_of {n m : Nat} {B : Addr → Ib} {ds : List D} {fs : List (Str × D)} (hl : ds.length = m) (h : ∀ o, runI n (B o) o ds = some fs) : gI n m B ds = some fs := by
  unfold gI
  rw [if_pos ⟨hl, fun o => by rw [h, h]⟩, h]
def inNames (ns : List Str) (fs : List (Str × D)) : Prop := ∀ n ∈ fs.map (·.1), n ∈ ns
structure MkF (K : PySem.W.Frag) (mg : Str → Option Value) (x qual : Str) (st : Stmt) (ns : List Str) : Prop where
  ex : ∃ (C f : Addr) (fd : FuncData), mg x = some (.ref C) ∧ Mk K C f ∧ Cls K C ∧ Fun K "__init__" qual st f fd ∧ ∀ n ∈ ns, NoAttr K C n
def gIn (ns : List Str) (g : List D → Option (List (Str × D))) : List D → Option (List (Str × D)) := fun ds => match g ds with
  | some fs => if (fs.map (·.1)).all (fun n => ns.contains n) = true then some fs else none
  | none => none
theorem gIn_run {ns : List Str} {g : List D → Option (List (Str × D))} {ds : List D} {fs : List (Str × D)} (h : gIn ns g ds = some fs) : g ds = some fs ∧ ∀ n ∈ fs.map (·.1), n ∈ ns := by
  unfold gIn at h
  split at h
  · rename_i fs' e
    split at h
    · rename_i z
      cases h
      refine ⟨e, fun n hn => ?_⟩
      rw [List.all_eq_true] at z
      exact List.contains_iff_mem.mp (z n hn)
    · cases h
  · cases h
theorem mk_of {x qual : Str} {st : Stmt} {ns ps : List Str} {k : Nat} {g : List D → Option (List (Str × D))} (T : MkF K mg x qual st ns)
    (h : ∀ (C f : Addr) (fd : FuncData), Cls K C → (∀ n ∈ ns, NoAttr K C n) → Fun K "__init__" qual st f fd → FnOk P w K mg base CX0 k f fd ps (spI K C (ps.length - 1) (gIn ns g)))
    (hb : ∀ (kV doc pm : Value) (an : Option Addr) (cdv ct : Value) (us : List Value), us.length = ps.length →
      bindArgs (PySem.W.fnOf "__init__" qual (defArgs st) (defBody st) (defScope st) .none kV doc pm an cdv ct) ⟨us, []⟩ = pure (ps.zip us)) : MkOk P w K mg base x k (ps.length - 1) (gIn ns g) := by
  obtain ⟨C, f, fd, hm, hM, hC, F, hn⟩ := T.ex
  exact ⟨C, f, fd, ps, hm, hM, hC, F.binds hb, h C f fd hC hn F, fun ds fs e n z => hn n ((gIn_run e).2 n z)⟩
theorem defD_of {x : Str} {st : Stmt} {ps : List Str} {k n : Nat} {dvs : List V} {F : Fx} (T : DFD K mg x st dvs) (h : ∀ (f : Addr) (fd : FuncData), FunD K x x (defArgs st) (defBody st) (defScope st) dvs [] f fd → FnOk P w K mg base CX0 k f fd ps (spV K F)) (hd : dvs ≠ []) (hn : n + dvs.length = ps.length)
    (hb : ∀ (j : Nat), j ≤ dvs.length → ∀ (T : Addr) (kV doc pm : Value) (an : Option Addr) (cdv ct : Value) (us its : List Value), us.length = n + j → its.length = dvs.length →
      ∃ k, bindArgs (PySem.W.fnOf x x (defArgs st) (defBody st) (defScope st) (.ref T) kV doc pm an cdv ct) ⟨us, []⟩ = seqItems? (.ref T) >>= k ∧ k (some its.toArray) = pure (ps.zip (us ++ its.drop j))) : DefD P w K mg base x k ps dvs F := by
  obtain ⟨f, fd, hm, G⟩ := T.ex
  exact ⟨f, fd, hm, G.kp, fun j hj => G.binds1 (n + j) j hd (by omega) (hb j hj), h f fd G⟩
end
end M
namespace M
open PySem PySem.Spec PyProof.Rows L2 TL
theorem pe_cls {X : Cx} {x : Str} {pos : Pos} {T : String} (hg : Gl X x) (hm : X.mg x = none) (hv : bootBuiltins x = some (.type T)) (hn : x ≠ "__name__" := by decide) (hd : (x == ("__debug__" : Str)) = false := by decide) : PE X (.Name x pos) (tC (.ty T)) :=
  pe_bltn hg hm hv (show RelV (.ty T) (.type T) from rfl) hn hd
end M
namespace M
open PySem PySem.Spec PyProof.Rows L2 TL
section
variable {K : PySem.W.Frag} {h : Heap} {mg : Str → Option Value}
theorem free_of (X : K.In h) (G : h.Ns mainGlobals mg) {x : Str} (a : PySem.W.nsIn K mainGlobals x = some none) : mg x = none := PySem.W.mg_none_of X G a
theorem gint_of (X : K.In h) (G : h.Ns mainGlobals mg) {x : Str} {i j : Int} {t : Tok} (a : PySem.W.nsIn K mainGlobals x = some (some (.int j t))) (e : j = i) : GInt mg x i := ⟨t, e ▸ PySem.W.mg_of X G a⟩
theorem gstr_of (X : K.In h) (G : h.Ns mainGlobals mg) {x : Str} {s : Str} {l : List Nat} {t : Tok} (a : PySem.W.nsIn K mainGlobals x = some (some (.str s t))) (e : s = ⟨l.toArray⟩) : GStr mg x l := ⟨t, e ▸ PySem.W.mg_of X G a⟩
theorem df_of (X : K.In h) (G : h.Ns mainGlobals mg) {x : Str} {st : Stmt} {f : Addr} {od an : Option Addr} {sl : Array (Option Value)} {oc kV dc pm cd ct : Value} (a : PySem.W.nsIn K mainGlobals x = some (some (.ref f)))
    (l : K.lookup f = some ⟨oc, od, .func (PySem.W.fnOf x x (defArgs st) (defBody st) (defScope st) .none kV dc pm an cd ct), sl⟩) (c : PySem.W.codeIn K cd x = true) (k : PySem.W.keepIn K (.ref f) = true) : DF K mg x st :=
  ⟨f, _, PySem.W.mg_of X G a, fun_mk l c k⟩
theorem dfd_of (X : K.In h) (G : h.Ns mainGlobals mg) {x : Str} {st : Stmt} {f T : Addr} {od an : Option Addr} {sl : Array (Option Value)} {oc kV dc pm cd ct : Value} {o : Obj} {its : List Value} {n : Nat} {dvs : List V} (a : PySem.W.nsIn K mainGlobals x = some (some (.ref f)))
    (l : K.lookup f = some ⟨oc, od, .func (PySem.W.fnOf x x (defArgs st) (defBody st) (defScope st) (.ref T) kV dc pm an cd ct), sl⟩) (c : PySem.W.codeIn K cd x = true) (k : PySem.W.keepIn K (.ref f) = true)
    (l2 : K.lookup T = some o) (e : o.data = .seq its.toArray n) (hd : dvs ≠ []) (hv : Vals dvs its) : DFD K mg x st dvs :=
  ⟨f, _, PySem.W.mg_of X G a, ⟨oc, od, .ref T, kV, dc, pm, an, cd, ct, sl, rfl, l, c, .inr ⟨hd, T, _, its, n, rfl, l2, e, hv⟩, .inl rfl⟩, k⟩
theorem mkf_of (X : K.In h) (G : h.Ns mainGlobals mg) {x qual : Str} {st : Stmt} {C f : Addr} {od an : Option Addr} {sl : Array (Option Value)} {oc kV dc pm cd ct : Value} {ns : List Str} (a : PySem.W.nsIn K mainGlobals x = some (some (.ref C)))
    (a1 : PySem.W.findIn K (.ref C) "__init__" = some (some (.ref f))) (i1 : PySem.W.isFn K (.ref f) = true) (l : K.lookup f = some ⟨oc, od, .func (PySem.W.fnOf "__init__" qual (defArgs st) (defBody st) (defScope st) .none kV dc pm an cd ct), sl⟩) (c : PySem.W.codeIn K cd qual = true) (k : PySem.W.keepIn K (.ref f) = true)
    (pg : PySem.W.plainGet K C Str.empty = true) (hd : PySem.W.hasDictIn K C = true) (po : PySem.W.plainOver K C = true) (sa : PySem.W.findIn K (.ref C) "__setattr__" = some (some (.builtin "object.__setattr__"))) (mk : PySem.W.makesIn K C = true) (kc : PySem.W.keepIn K (.ref C) = true)
    (hn : ∀ n ∈ ns, PySem.W.findIn K (.ref C) n = some none) : MkF K mg x qual st ns :=
  ⟨C, f, _, PySem.W.mg_of X G a, ⟨mk, a1, i1, kc⟩, ⟨pg, hd, po, sa⟩, fun_mk l c k, hn⟩
end
theorem law_fd {l : PySem.W.OpenLaw} {w : World} {K : PySem.W.Frag} {h : Heap} {mg : Str → Option Value} {fa f : Addr} {k : Nat} {st : Stmt} {FL : Fx} (X : K.In h) (G : h.Ns mainGlobals mg) (hfa : mg "law" = some (.ref fa)) {od an : Option Addr} {sl : Array (Option Value)} {oc kV dc pm cd ct : Value}
    (a : PySem.W.nsIn K mainGlobals "law" = some (some (.ref f)))
    (l1 : K.lookup f = some ⟨oc, od, .func (PySem.W.fnOf "law" "law" (defArgs st) (defBody st) (defScope st) .none kV dc pm an cd ct), sl⟩) (c : PySem.W.codeIn K cd "law" = true) (kp : PySem.W.keepIn K (.ref f) = true)
    (hb : ∀ (s : Shared) (v : Value), BindsTo s (PySem.W.fnOf "law" "law" (defArgs st) (defBody st) (defScope st) .none kV dc pm an cd ct) ⟨[v], []⟩ [("script", v)])
    (H : ∀ (base : Heap) (f : Addr) (fd : FuncData), Fun K "law" "law" st f fd → FnOk l.prog w K mg base CX0 k f fd ["script"] (spV K FL)) :
    ∃ fd : FuncData, (∀ (s : Shared) (v : Value), BindsTo s fd ⟨[v], []⟩ [("script", v)]) ∧ ∀ base : Heap, K.In base → base.Ns mainGlobals mg → FnOk l.prog w K mg base CX0 k fa fd ["script"] (spV K FL) := by
  have e := hfa.symm.trans (PySem.W.mg_of X G a)
  cases e
  exact ⟨_, hb, fun base _ _ => H base _ _ (fun_mk l1 c kp)⟩
theorem rds_ints {K : PySem.W.Frag} {G : Hp} : ∀ ns : List Int, RDs K G (ns.map D.int) (ns.map V.int)
  | [] => rfl
  | n :: ns => ⟨_, _, rfl, rfl, rds_ints ns⟩
theorem law_walk {l : PySem.W.OpenLaw} {n k : Nat} {q : Program} {loose : List Str} {XP : (Str → Option Value) → Heap → Prop} {YP : World → Heap → Prop} {d : DefRec} {K : Params → PySem.W.Frag} (FL : Fx) (hn : l.most = some n) (hn2 : n ≤ sizeLine) (hdf : d.params.defaults = []) (hr : Room k callerA)
    (hY : ∀ (w : World) (h : Heap), YP w h → (K w.params).In h)
    (F : ∀ (w : World) (mg : Str → Option Value) (fa : Addr) (h : Heap), (K w.params).In h → h.Ns mainGlobals mg → mg d.name = some (.ref fa) →
      ∃ fd : FuncData, (∀ (s : Shared) (u : Value), BindsTo s fd ⟨[u], []⟩ [("script", u)]) ∧ ∀ base : Heap, (K w.params).In base → base.Ns mainGlobals mg → FnOk l.prog w (K w.params) mg base CX0 k fa fd ["script"] (spV (K w.params) FL))
    (hlaw : ∀ ns : List Int, ns.length ≤ n → ∃ as, FL [.d (.scr (ns.map .int))] = some (.d (.bl true), as)) :
    PySem.W.WalkO q loose XP YP l.row.toRowW d [] (fun f vs => PySem.call f vs) := by
  refine L2.walk_of (n := n) (k := k) (x := "script") (CX := fun _ => CX0) (sp := fun w => spV (K w.params) FL) hn hn2 hdf hr hY F (fun w H a ns hl _ hS => ?_) fun _ _ _ _ _ z => z
  obtain ⟨as, e⟩ := hlaw ns hl
  refine ⟨⟨fun _ => none, fun _ => none⟩, H, [.d (.scr (ns.map .int))], _, as, ⟨fun b o z => z, fun b o z => (by cases z), fun b o z => (by cases z), rfl, fun i x z => ?_, fun i b xs z => ?_, fun i j p b c xs ys hij z1 z2 z3 z4 => ?_⟩, fun j b xs z => ?_, e, fun v G' H' _ _ r => r⟩
  · have z := at_map.mp z
    match i, z with
    | 0, z => cases z; exact ⟨.ref a, rfl, a, _, rfl, hS, rds_ints ns⟩
    | i + 1, z => simp at z
  · have z := at_map.mp z
    match i, z with
    | 0, z => cases z
    | i + 1, z => simp at z
  · have z := at_map.mp z1
    match i, z with
    | 0, z => cases z
    | i + 1, z => simp at z
  · match j, z with
    | 0, z => cases z
    | j + 1, z => simp at z
end M
namespace M
open PySem PySem.Spec PyProof.Rows L2 TL
inductive Dep {α : Sort _} (a : α) : Type
  | mk
def okQ {α β : Type} (o : Option (α × β)) (Q : α → β → Prop) (_ : Dep Q := .mk) : Prop := match o with
  | some (r, s) => Q r s
  | none => False
section
variable {α β : Type} {Q Q' : α → β → Prop} {o : Option (α × β)}
@[simp ↓] theorem okQ_some {r : α} {s : β} : okQ (some (r, s)) Q ↔ Q r s := Iff.rfl
@[simp] theorem okQ_none : okQ (none : Option (α × β)) Q ↔ False := Iff.rfl
theorem okQ_iff : okQ o Q ↔ ∃ r s, o = some (r, s) ∧ Q r s := by
  cases o with
  | none => simp
  | some p => exact ⟨fun h => ⟨_, _, rfl, h⟩, fun ⟨r, s, e, h⟩ => by cases e; exact h⟩
theorem okQ.imp (h : okQ o Q) (i : ∀ r s, Q r s → Q' r s) : okQ o Q' := by
  cases o with
  | none => exact h
  | some p => exact i _ _ h
def oq {α : Type} (o : Option α) (P : α → Prop) (_ : Dep P := .mk) : Prop := match o with
  | some x => P x
  | none => False
@[simp ↓] theorem oq_some {α : Type} {x : α} {P : α → Prop} : oq (some x) P ↔ P x := Iff.rfl
@[simp] theorem oq_none {α : Type} {P : α → Prop} : oq (none : Option α) P ↔ False := Iff.rfl
@[simp] theorem oq_map {α β : Type} {o : Option α} {f : α → β} {P : β → Prop} : oq (o.map f) P ↔ oq o fun x => P (f x) := by cases o <;> simp
@[simp] theorem oq_ite {α : Type} {c : Prop} [Decidable c] {x : α} {P : α → Prop} : oq (if c then some x else none) P ↔ c ∧ P x := by by_cases h : c <;> simp [h]
theorem oq_iff {α : Type} {o : Option α} {P : α → Prop} : oq o P ↔ ∃ x, o = some x ∧ P x := by cases o <;> simp
def isD' (r : RV) (P : D → Prop) (_ : Dep P := .mk) : Prop := match r with | .d x => P x | _ => False
def isBl (r : RV) (P : Bool → Prop) (_ : Dep P := .mk) : Prop := match r with | .d (.bl b) => P b | _ => False
def isInt (r : RV) (P : Int → Prop) (_ : Dep P := .mk) : Prop := match r with | .d (.int b) => P b | _ => False
def isStr (r : RV) (P : List Nat → Prop) (_ : Dep P := .mk) : Prop := match r with | .d (.str b) => P b | _ => False
def isLst (r : RV) (P : List D → Prop) (_ : Dep P := .mk) : Prop := match r with | .d (.lst b) => P b | _ => False
def isTup (r : RV) (P : List D → Prop) (_ : Dep P := .mk) : Prop := match r with | .d (.tup b) => P b | _ => False
def isIns (r : RV) (P : Str → List Str → List D → Prop) (_ : Dep P := .mk) : Prop := match r with | .d (.ins a b c) => P a b c | _ => False
def isOwn (r : Option (Option SV)) (P : Bool → List D → Prop) (_ : Dep P := .mk) : Prop := match r with | some (some (.own b xs)) => P b xs | _ => False
@[simp ↓] theorem isD'_d {x : D} {P : D → Prop} : isD' (.d x) P ↔ P x := Iff.rfl
@[simp ↓] theorem isD'_own {x : List D} {P : D → Prop} : isD' (.own x) P ↔ False := Iff.rfl
@[simp ↓] theorem isD'_bor {x : Nat} {P : D → Prop} : isD' (.bor x) P ↔ False := Iff.rfl
@[simp ↓] theorem isBl_bl {x : Bool} {P : Bool → Prop} : isBl (.d (.bl x)) P ↔ P x := Iff.rfl
@[simp ↓] theorem isInt_int {x : Int} {P : Int → Prop} : isInt (.d (.int x)) P ↔ P x := Iff.rfl
@[simp ↓] theorem isStr_str {x : List Nat} {P : List Nat → Prop} : isStr (.d (.str x)) P ↔ P x := Iff.rfl
@[simp ↓] theorem isLst_lst {x : List D} {P : List D → Prop} : isLst (.d (.lst x)) P ↔ P x := Iff.rfl
@[simp ↓] theorem isTup_tup {x : List D} {P : List D → Prop} : isTup (.d (.tup x)) P ↔ P x := Iff.rfl
@[simp ↓] theorem isIns_ins {a : Str} {b : List Str} {c : List D} {P : Str → List Str → List D → Prop} : isIns (.d (.ins a b c)) P ↔ P a b c := Iff.rfl
@[simp ↓] theorem isOwn_own {b : Bool} {xs : List D} {P : Bool → List D → Prop} : isOwn (some (some (.own b xs))) P ↔ P b xs := Iff.rfl
theorem okQ.ex (h : okQ o Q) : ∃ r s, o = some (r, s) ∧ Q r s := okQ_iff.mp h
end
def wE (f : Ex) (ρ : Sl) (Q : RV → Sl → Prop) (_ : Dep Q := .mk) : Prop := okQ (f ρ) Q
def wT (f : Tx) (ρ : Sl) (Q : Bool → Sl → Prop) (_ : Dep Q := .mk) : Prop := okQ (f ρ) Q
def wA (f : Ax) (ρ : Sl) (Q : List RV → Sl → Prop) (_ : Dep Q := .mk) : Prop := okQ (f ρ) Q
def wS (f : Sx) (ρ : Sl) (Q : Fl → Sl → Prop) (_ : Dep Q := .mk) : Prop := okQ (f ρ) Q
def wI (f : Ix) (ρ : Sl) (Q : List D → Sl → Prop) (_ : Dep Q := .mk) : Prop := okQ (f ρ) Q
def wO (f : Ox) (ρ : Sl) (Q : Option Int → Sl → Prop) (_ : Dep Q := .mk) : Prop := okQ (f ρ) Q
@[irreducible] def wF (F : Fx) (as : List SV) (Q : RV → List SV → Prop) (_ : Dep Q := .mk) : Prop := okQ (F as) Q
def wR (bind : Bx) (body : Sx) (xs : List D) (ρ : Sl) (Q : Fl → Sl → Prop) (_ : Dep Q := .mk) : Prop := okQ (forGo bind body xs ρ) Q
def wW (c : Tx) (body : Sx) (n : Nat) (ρ : Sl) (Q : Fl → Sl → Prop) (_ : Dep Q := .mk) : Prop := okQ (whileN c body n ρ) Q
def wC (vs : List Nat) (bind : Bx) (cond : Tx) (elt : Ex) (xs acc : List D) (ρ : Sl) (Q : List D → Sl → Prop) (_ : Dep Q := .mk) : Prop := okQ (compGo vs bind cond elt xs acc ρ) Q
def wC2 (vs vs1 : List Nat) (bind : Bx) (cond : Tx) (it1 : Ix) (bind1 : Bx) (cond1 : Tx) (elt : Ex) (xs acc : List D) (ρ : Sl) (Q : List D → Sl → Prop) (_ : Dep Q := .mk) : Prop := okQ (comp2Go vs vs1 bind cond it1 bind1 cond1 elt xs acc ρ) Q
theorem wE.imp {f : Ex} {ρ : Sl} {Q Q' : RV → Sl → Prop} (h : wE f ρ Q) (i : ∀ r ρ', Q r ρ' → Q' r ρ') : wE f ρ Q' := okQ.imp h i
theorem wS.imp {f : Sx} {ρ : Sl} {Q Q' : Fl → Sl → Prop} (h : wS f ρ Q) (i : ∀ r ρ', Q r ρ' → Q' r ρ') : wS f ρ Q' := okQ.imp h i
theorem wF_def {F : Fx} {as : List SV} {Q : RV → List SV → Prop} : wF F as Q ↔ okQ (F as) Q := by
  unfold wF
  exact Iff.rfl
theorem wF_ex {F : Fx} {as : List SV} {Q : RV → List SV → Prop} (h : wF F as Q) : ∃ r as', F as = some (r, as') ∧ Q r as' := okQ.ex (wF_def.mp h)
theorem wF_eq {F : Fx} {as as' : List SV} {r : RV} {Q : RV → List SV → Prop} (e : F as = some (r, as')) (h : Q r as') : wF F as Q := wF_def.mpr (by rw [e]; exact h)
theorem wF.imp {f : Fx} {ρ : List SV} {Q Q' : RV → List SV → Prop} (h : wF f ρ Q) (i : ∀ r ρ', Q r ρ' → Q' r ρ') : wF f ρ Q' := by
  unfold wF at h ⊢
  exact okQ.imp h i
section
variable {ρ : Sl} {fa fb fc fe fk : Ex} {c d : Tx} {fs : Ax} {f g : Sx} {i j n : Nat} {QE : RV → Sl → Prop} {QT : Bool → Sl → Prop} {QA : List RV → Sl → Prop} {QS : Fl → Sl → Prop} {QI : List D → Sl → Prop} {QO : Option Int → Sl → Prop}
@[simp ↓] theorem wE_C {d : D} : wE (bC d) ρ QE ↔ QE (.d d) ρ := Iff.rfl
@[simp ↓] theorem wE_V : wE (bV i) ρ QE ↔ (match ρ[i]? with
  | some (some (.d x)) => QE (.d x) ρ
  | some (some (.own _ _)) => QE (.bor i) ρ
  | _ => False) := by
  unfold wE bV
  split <;> simp_all
@[simp ↓] theorem wE_Op {h : D → D → Option RV} : wE (bOp h fa fb) ρ QE ↔ wE fa ρ fun ra ρ1 => wE fb ρ1 fun rb ρ2 => oq (pk ρ2 ra.nrm) fun x => oq (pk ρ2 rb.nrm) fun y => oq (h x y) fun z => QE z ρ2 := by
  unfold wE bOp
  rcases fa ρ with _ | ⟨ra, ρ1⟩
  · simp
  rcases e2 : fb ρ1 with _ | ⟨rb, ρ2⟩
  · simp [e2]
  cases e3 : pk ρ2 ra.nrm <;> cases e4 : pk ρ2 rb.nrm <;> simp [e2, e3, e4]
  rename_i x y
  cases h x y <;> simp
@[simp ↓] theorem wE_Un {h : D → Option RV} : wE (bUn h fa) ρ QE ↔ wE fa ρ fun ra ρ1 => oq (pk ρ1 ra.nrm) fun x => oq (h x) fun z => QE z ρ1 := by
  unfold wE bUn
  rcases fa ρ with _ | ⟨ra, ρ1⟩
  · simp
  cases e3 : pk ρ1 ra.nrm <;> simp [e3]
  rename_i x
  cases h x <;> simp
@[simp ↓] theorem wA_nil : wA aNil ρ QA ↔ QA [] ρ := Iff.rfl
@[simp ↓] theorem wA_cons : wA (aCons fa fs) ρ QA ↔ wE fa ρ fun r ρ1 => wA fs ρ1 fun rs ρ2 => QA (r.nrm :: rs) ρ2 := by
  unfold wA wE aCons
  rcases fa ρ with _ | ⟨ra, ρ1⟩
  · simp
  rcases e2 : fs ρ1 with _ | ⟨rb, ρ2⟩ <;> simp [e2]
@[simp ↓] theorem wA_app {ds : List D} : wA (aApp fs ds) ρ QA ↔ wA fs ρ fun rs ρ1 => QA (rs ++ ds.map RV.d) ρ1 := by
  unfold wA aApp
  rcases fs ρ with _ | ⟨ra, ρ1⟩ <;> simp
@[simp ↓] theorem wE_Fn {h : List D → Option RV} : wE (bFn h fs) ρ QE ↔ wA fs ρ fun rs ρ1 => oq (pks ρ1 rs) fun ds => oq (h ds) fun z => QE z ρ1 := by
  unfold wE wA bFn
  rcases fs ρ with _ | ⟨rs, ρ1⟩
  · simp
  cases e3 : pks ρ1 rs <;> simp [e3]
  rename_i x
  cases h x <;> simp
@[simp ↓] theorem wE_Fz : wE (bFz fa) ρ QE ↔ wE fa ρ fun r ρ1 => okQ (frz r ρ1) fun x ρ2 => QE (.d x) ρ2 := by
  unfold wE bFz
  rcases fa ρ with _ | ⟨r, ρ1⟩
  · simp
  rcases e3 : frz r ρ1 with _ | ⟨x, ρ2⟩ <;> simp [e3]
@[simp] theorem frz_d {x : D} : frz (.d x) ρ = some (x, ρ) := rfl
@[simp] theorem frz_own {xs : List D} : frz (.own xs) ρ = some (.lst xs, ρ) := rfl
@[simp] theorem frz_bor : frz (.bor i) ρ = (match ρ[i]? with
    | some (some (.own false xs)) => some (.lst xs, ρ.set i (some (.d (.lst xs))))
    | _ => none) := rfl
@[simp] theorem pk_d {x : D} : pk ρ (.d x) = some x := rfl
@[simp] theorem pk_bor : pk ρ (.bor i) = (match ρ[i]? with
    | some (some (.own _ xs)) => some (.lst xs)
    | _ => none) := rfl
@[simp] theorem nrm_d {x : D} : RV.nrm (.d x) = .d x := rfl
@[simp] theorem nrm_own {x : List D} : RV.nrm (.own x) = .d (.lst x) := rfl
@[simp] theorem nrm_bor : RV.nrm (.bor i) = .bor i := rfl
@[simp] theorem pks_nil : pks ρ [] = some [] := rfl
@[simp] theorem pks_cons {r : RV} {rs : List RV} : pks ρ (r :: rs) = (match pk ρ r, pks ρ rs with
    | some x, some xs => some (x :: xs)
    | _, _ => none) := rfl
@[simp] theorem dsOf_nil : dsOf [] = some [] := rfl
@[simp] theorem dsOf_cons {x : D} {rs : List RV} : dsOf (.d x :: rs) = (dsOf rs).map fun xs => x :: xs := rfl
@[simp ↓] theorem wE_If : wE (bIf c fa fb) ρ QE ↔ wT c ρ fun b ρ1 => if b = true then wE fa ρ1 QE else wE fb ρ1 QE := by
  unfold wE wT bIf
  rcases c ρ with _ | ⟨b, ρ1⟩
  · simp
  cases b <;> simp
@[simp ↓] theorem wT_T : wT (bT fa) ρ QT ↔ wE fa ρ fun r ρ1 => isBl r fun b => QT b ρ1 := by
  unfold wE wT bT
  rcases fa ρ with _ | ⟨r, ρ1⟩
  · simp
  cases r with
  | d x => cases x <;> simp [isBl, isInt, isStr, isLst, isTup]
  | own x => simp [isBl, isInt, isStr, isLst, isTup]
  | bor x => simp [isBl, isInt, isStr, isLst, isTup]
@[simp ↓] theorem wT_And : wT (bAnd c d) ρ QT ↔ wT c ρ fun b ρ1 => if b = true then wT d ρ1 QT else QT false ρ1 := by
  unfold wT bAnd
  rcases c ρ with _ | ⟨b, ρ1⟩
  · simp
  cases b <;> simp
@[simp ↓] theorem wT_Or : wT (bOr c d) ρ QT ↔ wT c ρ fun b ρ1 => if b = true then QT true ρ1 else wT d ρ1 QT := by
  unfold wT bOr
  rcases c ρ with _ | ⟨b, ρ1⟩
  · simp
  cases b <;> simp
@[simp ↓] theorem wT_Not : wT (bNot c) ρ QT ↔ wT c ρ fun b ρ1 => QT (!b) ρ1 := by
  unfold wT bNot
  rcases c ρ with _ | ⟨b, ρ1⟩ <;> simp
@[simp ↓] theorem wT_Yes : wT bYes ρ QT ↔ QT true ρ := Iff.rfl
@[simp ↓] theorem wE_OfT : wE (bOfT c) ρ QE ↔ wT c ρ fun b ρ1 => QE (.d (.bl b)) ρ1 := by
  unfold wE wT bOfT
  rcases c ρ with _ | ⟨b, ρ1⟩ <;> simp
@[simp ↓] theorem wE_AndV : wE (bAndV fa fb) ρ QE ↔ wE fa ρ fun r ρ1 => isBl r fun b => if b = true then wE fb ρ1 QE else QE (.d (.bl false)) ρ1 := by
  unfold wE bAndV
  rcases fa ρ with _ | ⟨r, ρ1⟩
  · simp
  cases r with
  | d x => cases x <;> simp [isBl]; rename_i b; cases b <;> simp
  | own x => simp [isBl]
  | bor x => simp [isBl]
@[simp ↓] theorem wE_OrV : wE (bOrV fa fb) ρ QE ↔ wE fa ρ fun r ρ1 => isBl r fun b => if b = true then QE (.d (.bl true)) ρ1 else wE fb ρ1 QE := by
  unfold wE bOrV
  rcases fa ρ with _ | ⟨r, ρ1⟩
  · simp
  cases r with
  | d x => cases x <;> simp [isBl]; rename_i b; cases b <;> simp
  | own x => simp [isBl]
  | bor x => simp [isBl]
@[simp ↓] theorem wE_NotV : wE (bNotV fa) ρ QE ↔ wE fa ρ fun r ρ1 => isBl r fun b => QE (.d (.bl (!b))) ρ1 := by
  unfold wE bNotV
  rcases fa ρ with _ | ⟨r, ρ1⟩
  · simp
  cases r with
  | d x => cases x <;> simp [isBl, isInt, isStr, isLst, isTup]
  | own x => simp [isBl, isInt, isStr, isLst, isTup]
  | bor x => simp [isBl, isInt, isStr, isLst, isTup]
@[simp ↓] theorem wS_Nx : wS sNx ρ QS ↔ QS .nx ρ := Iff.rfl
@[simp ↓] theorem wS_Bk : wS sBk ρ QS ↔ QS .bk ρ := Iff.rfl
@[simp ↓] theorem wS_Ct : wS sCt ρ QS ↔ QS .ct ρ := Iff.rfl
@[simp ↓] theorem wS_RetN : wS sRetN ρ QS ↔ QS (.rt (.d .non)) ρ := Iff.rfl
@[simp ↓] theorem wS_Never : wS sNever ρ QS ↔ False := Iff.rfl
def thenS (g : Sx) (Q : Fl → Sl → Prop) : Fl → Sl → Prop := fun fl ρ => match fl with
  | .nx => wS g ρ Q
  | o => Q o ρ
@[simp ↓] theorem thenS_nx : thenS g QS .nx ρ ↔ wS g ρ QS := Iff.rfl
@[simp ↓] theorem thenS_bk : thenS g QS .bk ρ ↔ QS .bk ρ := Iff.rfl
@[simp ↓] theorem thenS_ct : thenS g QS .ct ρ ↔ QS .ct ρ := Iff.rfl
@[simp ↓] theorem thenS_rt {r : RV} : thenS g QS (.rt r) ρ ↔ QS (.rt r) ρ := Iff.rfl
@[simp ↓] theorem wS_Seq : wS (sSeq f g) ρ QS ↔ wS f ρ (thenS g QS) := by
  unfold wS sSeq
  rcases f ρ with _ | ⟨fl, ρ1⟩
  · simp
  cases fl <;> simp [wS]
@[simp ↓] theorem wS_If : wS (sIf c f g) ρ QS ↔ wT c ρ fun b ρ1 => if b = true then wS f ρ1 QS else wS g ρ1 QS := by
  unfold wS wT sIf
  rcases c ρ with _ | ⟨b, ρ1⟩
  · simp
  cases b <;> simp
@[simp ↓] theorem wS_Drop : wS (sDrop fa) ρ QS ↔ wE fa ρ fun _ ρ1 => QS .nx ρ1 := by
  unfold wS wE sDrop
  rcases fa ρ with _ | ⟨r, ρ1⟩ <;> simp
@[simp ↓] theorem wS_Ret : wS (sRet fa) ρ QS ↔ wE fa ρ fun r ρ1 => QS (.rt r) ρ1 := by
  unfold wS wE sRet
  rcases fa ρ with _ | ⟨r, ρ1⟩ <;> simp
@[simp] theorem putR_d {x : D} : putR i (.d x) ρ = some (ρ.set i (some (.d x))) := rfl
@[simp] theorem putR_own {x : List D} : putR i (.own x) ρ = some (ρ.set i (some (.own false x))) := rfl
@[simp ↓] theorem wS_Set : wS (sSet i fa) ρ QS ↔ wE fa ρ fun r ρ1 => oq (putR i r ρ1) fun ρ2 => QS .nx ρ2 := by
  unfold wS wE sSet
  rcases fa ρ with _ | ⟨r, ρ1⟩
  · simp
  cases e : putR i r ρ1 <;> simp [e]
def nobor : RV → Prop
  | .bor _ => False
  | _ => True
@[simp] theorem nobor_d {x : D} : nobor (.d x) ↔ True := Iff.rfl
@[simp] theorem nobor_own {x : List D} : nobor (.own x) ↔ True := Iff.rfl
@[simp ↓] theorem wA_aoCons : wA (aoCons fa fs) ρ QA ↔ wE fa ρ fun r ρ1 => nobor r ∧ wA fs ρ1 fun rs ρ2 => QA (r :: rs) ρ2 := by
  unfold wA wE aoCons
  rcases fa ρ with _ | ⟨ra, ρ1⟩
  · simp
  cases ra with
  | bor i => simp [nobor]
  | d x => rcases e2 : fs ρ1 with _ | ⟨rb, ρ2⟩ <;> simp [e2]
  | own x => rcases e2 : fs ρ1 with _ | ⟨rb, ρ2⟩ <;> simp [e2]
@[simp] theorem putRs_nil : putRs [] [] ρ = some ρ := rfl
@[simp] theorem putRs_cons {r : RV} {is : List Nat} {rs : List RV} : putRs (i :: is) (r :: rs) ρ = (match putR i r ρ with
    | none => none
    | some ρ1 => putRs is rs ρ1) := rfl
@[simp ↓] theorem wS_ParN {is : List Nat} : wS (sParN is fs) ρ QS ↔ wA fs ρ fun rs ρ1 => oq (putRs is rs ρ1) fun ρ2 => QS .nx ρ2 := by
  unfold wS wA sParN
  rcases fs ρ with _ | ⟨rs, ρ1⟩
  · simp
  cases e : putRs is rs ρ1 <;> simp [e]
@[simp ↓] theorem wS_Bind {bind : Bx} : wS (sBind bind fa) ρ QS ↔ wE (bFz fa) ρ fun r ρ1 => isD' r fun v => oq (bind v ρ1) fun ρ2 => QS .nx ρ2 := by
  unfold wS wE sBind
  rcases bFz fa ρ with _ | ⟨r, ρ1⟩
  · simp
  cases r with
  | d x => simp; cases e : bind x ρ1 <;> simp [e]
  | own x => simp
  | bor x => simp
@[simp ↓] theorem wE_Mu {h : List D → List D → Option (List D × D)} : wE (bMu i h fs) ρ QE ↔ isOwn ρ[i]? fun _ _ => wA fs ρ fun rs ρ1 => isOwn ρ1[i]? fun b xs => oq (dsOf rs) fun ds => okQ (h xs ds) fun ys z => QE (.d z) (ρ1.set i (some (.own b ys))) := by
  unfold wE wA bMu
  split
  · rename_i b ys e
    simp only [e, isOwn_own]
    rcases fs ρ with _ | ⟨rs, ρ1⟩
    · simp
    simp only [okQ_some]
    split
    · rename_i b xs e1
      simp only [e1, isOwn_own]
      cases e2 : dsOf rs with
      | none => simp
      | some ds =>
        rcases e3 : h xs ds with _ | ⟨ys', z⟩ <;> simp [e3]
    · rename_i h1
      simp only [okQ_none, false_iff]
      unfold isOwn
      split
      · rename_i e; exact (h1 _ _ e).elim
      · exact id
  · rename_i h1
    simp only [okQ_none, false_iff]
    unfold isOwn
    split
    · rename_i e; exact (h1 _ _ e).elim
    · exact id
@[simp ↓] theorem wS_Put : wS (sPut i fk fe) ρ QS ↔ wE (bFz fe) ρ fun r ρ1 => isD' r fun x => isOwn ρ1[i]? fun _ _ => wE fk ρ1 fun q ρ2 => isInt q fun k => isOwn ρ2[i]? fun b xs => oq (ixN xs.length k) fun j => QS .nx (ρ2.set i (some (.own b (xs.set j x)))) := by
  unfold wS wE sPut
  rcases bFz fe ρ with _ | ⟨r, ρ1⟩
  · simp
  cases r with
  | own x => simp
  | bor x => simp
  | d x =>
    simp only [okQ_some, isD'_d]
    split
    · rename_i b ys e
      simp only [e, isOwn_own]
      rcases fk ρ1 with _ | ⟨q, ρ2⟩
      · simp
      cases q with
      | own x => simp [isInt]
      | bor x => simp [isInt]
      | d y =>
        cases y with
        | int k =>
          simp only [okQ_some, isInt_int]
          split
          · rename_i b xs e1
            simp only [e1, isOwn_own]
            cases e2 : ixN xs.length k <;> simp
          · rename_i h1
            simp only [okQ_none, false_iff]
            unfold isOwn
            split
            · rename_i e; exact (h1 _ _ e).elim
            · exact id
        | _ => simp [isInt]
    · rename_i h1
      simp only [okQ_none, false_iff]
      unfold isOwn
      split
      · rename_i e; exact (h1 _ _ e).elim
      · exact id
@[simp ↓] theorem wO_none : wO oNone ρ QO ↔ QO none ρ := Iff.rfl
@[simp ↓] theorem wO_some : wO (oSome fa) ρ QO ↔ wE fa ρ fun r ρ1 => isInt r fun i => QO (some i) ρ1 := by
  unfold wO wE oSome
  rcases fa ρ with _ | ⟨r, ρ1⟩
  · simp
  cases r with
  | d x => cases x <;> simp [isBl, isInt, isStr, isLst, isTup]
  | own x => simp [isBl, isInt, isStr, isLst, isTup]
  | bor x => simp [isBl, isInt, isStr, isLst, isTup]
@[simp ↓] theorem wE_Sl {lo hi : Ox} : wE (bSl fa lo hi) ρ QE ↔ wE fa ρ fun ra ρ1 => wO lo ρ1 fun l ρ2 => wO hi ρ2 fun h ρ3 => oq (pk ρ3 ra.nrm) fun x => oq (slD x l h) fun z => QE z ρ3 := by
  unfold wE wO bSl
  rcases fa ρ with _ | ⟨ra, ρ1⟩
  · simp
  rcases e1 : lo ρ1 with _ | ⟨l, ρ2⟩
  · simp [e1]
  rcases e2 : hi ρ2 with _ | ⟨h, ρ3⟩
  · simp [e1, e2]
  simp only [okQ_some, e1, e2]
  cases e3 : pk ρ3 ra.nrm with
  | none => simp
  | some x =>
    cases e4 : slD x l h <;> simp [e4]
@[simp ↓] theorem wE_TupE : wE (bTupE fs) ρ QE ↔ wA fs ρ fun rs ρ1 => oq (dsOf rs) fun ds => ds.length ≤ 16777216 ∧ QE (.d (.tup ds)) ρ1 := by
  unfold wE wA bTupE
  rcases fs ρ with _ | ⟨rs, ρ1⟩
  · simp
  cases e : dsOf rs with
  | none => simp [e]
  | some ds => by_cases h : ds.length ≤ 16777216 <;> simp [e, h]
@[simp ↓] theorem wE_LstE : wE (bLstE fs) ρ QE ↔ wA fs ρ fun rs ρ1 => oq (dsOf rs) fun ds => ds.length ≤ 16777216 ∧ QE (.own ds) ρ1 := by
  unfold wE wA bLstE
  rcases fs ρ with _ | ⟨rs, ρ1⟩
  · simp
  cases e : dsOf rs with
  | none => simp [e]
  | some ds => by_cases h : ds.length ≤ 16777216 <;> simp [e, h]
@[simp ↓] theorem wE_Chain {h h' : D → D → Option RV} : wE (bChain h h' fa fb fc) ρ QE ↔ wE fa ρ fun ra ρ1 => isD' ra fun x => wE fb ρ1 fun rb ρ2 => isD' rb fun y => oq (h x y) fun q => isBl q fun b => if b = true then wE fc ρ2 fun rc ρ3 => isD' rc fun z => oq (h' y z) fun q => QE q ρ3 else QE (.d (.bl false)) ρ2 := by
  unfold wE bChain
  rcases fa ρ with _ | ⟨ra, ρ1⟩
  · simp
  cases ra with
  | own x => simp
  | bor x => simp
  | d x =>
    rcases e1 : fb ρ1 with _ | ⟨rb, ρ2⟩
    · simp [e1]
    cases rb with
    | own x => simp [e1]
    | bor x => simp [e1]
    | d y =>
      simp only [okQ_some, e1, isD'_d]
      rcases e2 : h x y with _ | q
      · simp
      cases q with
      | own x => simp [isBl]
      | bor x => simp [isBl]
      | d q =>
        cases q with
        | bl b =>
          cases b with
          | false => simp
          | true =>
            simp
            rcases e3 : fc ρ2 with _ | ⟨rc, ρ3⟩
            · simp
            cases rc with
            | own x => simp
            | bor x => simp
            | d z => cases e4 : h' y z <;> simp [e4]
        | _ => simp [isBl]
@[simp ↓] theorem wE_Mt {h : List Nat → List D → Option RV} : wE (bMt h fa fs) ρ QE ↔ wE fa ρ fun ra ρ1 => isStr ra fun s => wA fs ρ1 fun rs ρ2 => oq (pks ρ2 rs) fun ds => oq (h s ds) fun z => QE z ρ2 := by
  unfold wE wA bMt
  rcases fa ρ with _ | ⟨ra, ρ1⟩
  · simp
  cases ra with
  | own x => simp [isStr]
  | bor x => simp [isStr]
  | d x =>
    cases x with
    | str s =>
      simp only [okQ_some, isStr_str]
      rcases e1 : fs ρ1 with _ | ⟨rs, ρ2⟩
      · simp
      cases e2 : pks ρ2 rs with
      | none => simp [e2]
      | some ds => cases e3 : h s ds <;> simp [e2, e3]
    | _ => simp [isStr]
@[simp ↓] theorem wE_ListRange : wE (bListRange fa) ρ QE ↔ wE fa ρ fun r ρ1 => isInt r fun j => (-4611686018427387904 ≤ j ∧ j ≤ 16777216) ∧ QE (.own ((List.range j.toNat).map fun k : Nat => D.int (k : Int))) ρ1 := by
  unfold wE bListRange
  rcases fa ρ with _ | ⟨r, ρ1⟩
  · simp
  cases r with
  | own x => simp [isInt]
  | bor x => simp [isInt]
  | d x =>
    cases x with
    | int j =>
      simp only [okQ_some, isInt_int]
      rw [show (-(2 ^ 62) : Int) = -4611686018427387904 from by decide]
      split
      · rename_i h; simp [h]
      · rename_i h; simp only [okQ_none, false_iff]; exact fun z => h z.1
    | _ => simp [isInt]
@[simp ↓] theorem wE_Fld {f : Str} : wE (bFld f fa) ρ QE ↔ wE fa ρ fun r ρ1 => isIns r fun _ ns xs => oq ((ns.zip xs).lookup f) fun d => QE (.d d) ρ1 := by
  unfold wE bFld
  rcases fa ρ with _ | ⟨r, ρ1⟩
  · simp
  cases r with
  | own x => simp [isIns]
  | bor x => simp [isIns]
  | d x =>
    cases x with
    | ins nm ns xs =>
      simp only [okQ_some, isIns_ins]
      cases e : (ns.zip xs).lookup f <;> simp
    | _ => simp [isIns]
@[simp ↓] theorem wE_Mk {nm : Str} {m : Nat} {h : List D → Option (List (Str × D))} : wE (bMk nm m h fs) ρ QE ↔ wA fs ρ fun rs ρ1 => oq (dsOf rs) fun ds => ds.length = m ∧ oq (h ds) fun r => QE (.d (.ins nm (r.map (·.1)) (r.map (·.2)))) ρ1 := by
  unfold wE wA bMk
  rcases fs ρ with _ | ⟨rs, ρ1⟩
  · simp
  cases e : dsOf rs with
  | none => simp [e]
  | some ds =>
    by_cases hl : ds.length = m
    · cases e2 : h ds <;> simp [e, hl, e2]
    · simp [e, hl]
@[simp ↓] theorem wE_Isi2 {T U : String} : wE (bIsi2 T U fa) ρ QE ↔ wE fa ρ fun r ρ1 => oq (pk ρ1 r.nrm) fun d => oq (tyD d) fun A => oq (kitB A T) fun b => if b = true then QE (.d (.bl true)) ρ1 else oq (kitB A U) fun c => QE (.d (.bl c)) ρ1 := by
  unfold wE bIsi2
  rcases fa ρ with _ | ⟨r, ρ1⟩
  · simp
  simp only [okQ_some]
  cases e1 : pk ρ1 r.nrm with
  | none => simp
  | some d =>
    cases e2 : tyD d with
    | none => simp [e2]
    | some A =>
      simp only [e2, oq_some]
      rcases e3 : kitB A T with _ | b
      · simp
      cases b with
      | true => simp
      | false => rcases e4 : kitB A U with _ | c <;> simp
@[simp] theorem bors_nil : bors [] = [] := rfl
@[simp] theorem bors_d {x : D} {rs : List RV} : bors (.d x :: rs) = bors rs := rfl
@[simp] theorem bors_own {x : List D} {rs : List RV} : bors (.own x :: rs) = bors rs := rfl
@[simp] theorem bors_bor {rs : List RV} : bors (.bor i :: rs) = i :: bors rs := rfl
@[simp] theorem argOf_d {x : D} : argOf ρ (.d x) = some (.d x) := rfl
@[simp] theorem argOf_bor : argOf ρ (.bor i) = (match ρ[i]? with
    | some (some (.own _ xs)) => some (.own true xs)
    | _ => none) := rfl
@[simp] theorem argsOf_nil : argsOf ρ [] = some [] := rfl
@[simp] theorem argsOf_cons {r : RV} {rs : List RV} : argsOf ρ (r :: rs) = (match argOf ρ r, argsOf ρ rs with
    | some x, some xs => some (x :: xs)
    | _, _ => none) := rfl
@[simp] theorem give_nil : give [] [] ρ = some ρ := rfl
@[simp] theorem give_d {x y : D} {rs : List RV} {as : List SV} : give (.d x :: rs) (.d y :: as) ρ = give rs as ρ := rfl
@[simp] theorem give_bor {b : Bool} {y : List D} {rs : List RV} {as : List SV} : give (.bor i :: rs) (.own b y :: as) ρ = (match ρ[i]? with
    | some (some (.own b _)) => give rs as (ρ.set i (some (.own b y)))
    | _ => none) := rfl
@[simp ↓] theorem wE_Call {F : Fx} : wE (bCall F fs) ρ QE ↔ wA fs ρ fun rs ρ1 => (bors rs).Nodup ∧ oq (argsOf ρ1 rs) fun args => wF F args fun r as => nobor r ∧ oq (give rs as ρ1) fun ρ2 => QE r ρ2 := by
  unfold wE wA wF bCall
  rcases fs ρ with _ | ⟨rs, ρ1⟩
  · simp
  simp only [okQ_some]
  by_cases hn : (bors rs).Nodup
  · rw [if_pos hn]
    cases e1 : argsOf ρ1 rs with
    | none => simp
    | some args =>
      rcases e2 : F args with _ | ⟨r, as⟩
      · simp [e2]
      cases r with
      | bor i => simp [e2, nobor]
      | d x => cases e3 : give rs as ρ1 <;> simp [e2, hn, e3]
      | own x => cases e3 : give rs as ρ1 <;> simp [e2, hn, e3]
  · rw [if_neg hn]
    simp [hn]
@[simp] theorem outs_nil : outs [] n ρ = some [] := rfl
@[simp] theorem outs_d {x : D} {as : List SV} : outs (.d x :: as) n ρ = (outs as (n + 1) ρ).map fun r => .d x :: r := rfl
@[simp] theorem outs_own {b : Bool} {xs : List D} {as : List SV} : outs (.own b xs :: as) n ρ = (match ρ[n]? with
  | some (some (.own true ys)) => (outs as (n + 1) ρ).map fun r => .own true ys :: r
  | _ => none) := rfl
@[simp] theorem fin_nx : fin .nx ρ = some (.d .non) := rfl
@[simp] theorem fin_d {x : D} : fin (.rt (.d x)) ρ = some (.d x) := rfl
@[simp] theorem fin_own {x : List D} : fin (.rt (.own x)) ρ = some (.own x) := rfl
@[simp] theorem fin_bor : fin (.rt (.bor i)) ρ = (match ρ[i]? with
    | some (some (.own false xs)) => some (.own xs)
    | _ => none) := rfl
theorem wF_run {m : Nat} {body : Sx} {args : List SV} {Q : RV → List SV → Prop} : wF (runB n m body) args Q ↔ args.length = m ∧ wS body (args.map some ++ List.replicate (n - args.length) none) fun fl ρ => oq (fin fl ρ) fun r => oq (outs args 0 ρ) fun as => Q r as := by
  unfold wF wS runB
  by_cases h : args.length = m
  · rw [if_pos h]
    rcases body (args.map some ++ List.replicate (n - args.length) none) with _ | ⟨fl, ρ⟩
    · simp
    cases e1 : fin fl ρ <;> cases e2 : outs args 0 ρ <;> simp [h, e1, e2]
  · rw [if_neg h]
    simp [h]
@[simp ↓] theorem wS_For {it : Ix} {bind : Bx} : wS (sFor it bind f) ρ QS ↔ wI it ρ fun xs ρ1 => wR bind f xs ρ1 QS := by
  unfold wS wI wR sFor
  rcases it ρ with _ | ⟨xs, ρ1⟩ <;> simp
@[simp ↓] theorem wR_nil {bind : Bx} : wR bind f [] ρ QS ↔ QS .nx ρ := Iff.rfl
def nextR (bind : Bx) (f : Sx) (xs : List D) (Q : Fl → Sl → Prop) : Fl → Sl → Prop := fun fl ρ => match fl with
  | .nx => wR bind f xs ρ Q
  | .ct => wR bind f xs ρ Q
  | .bk => Q .nx ρ
  | .rt r => Q (.rt r) ρ
@[simp ↓] theorem nextR_nx {bind : Bx} {xs : List D} : nextR bind f xs QS .nx ρ ↔ wR bind f xs ρ QS := Iff.rfl
@[simp ↓] theorem nextR_ct {bind : Bx} {xs : List D} : nextR bind f xs QS .ct ρ ↔ wR bind f xs ρ QS := Iff.rfl
@[simp ↓] theorem nextR_bk {bind : Bx} {xs : List D} : nextR bind f xs QS .bk ρ ↔ QS .nx ρ := Iff.rfl
@[simp ↓] theorem nextR_rt {bind : Bx} {xs : List D} {r : RV} : nextR bind f xs QS (.rt r) ρ ↔ QS (.rt r) ρ := Iff.rfl
theorem wR_cons {bind : Bx} {x : D} {xs : List D} : wR bind f (x :: xs) ρ QS ↔ oq (bind x ρ) fun ρ1 => wS f ρ1 (nextR bind f xs QS) := by
  unfold wR wS forGo
  cases e1 : bind x ρ with
  | none => simp
  | some ρ1 =>
    rcases e2 : f ρ1 with _ | ⟨fl, ρ2⟩
    · simp [e2]
    cases fl <;> simp [e2, wR]
@[simp] theorem bName_ap {x : D} : bName i x ρ = some (ρ.set i (some (.d x))) := rfl
@[simp] theorem bTup_ap {is : List Nat} {xs : List D} : bTup is (.tup xs) ρ = bNames is xs ρ := rfl
@[simp] theorem bNames_nil : bNames [] [] ρ = some ρ := rfl
@[simp] theorem bNames_cons {is : List Nat} {x : D} {xs : List D} : bNames (i :: is) (x :: xs) ρ = bNames is xs (ρ.set i (some (.d x))) := rfl
theorem wR_inv {bind : Bx} (P : Nat → Sl → Prop) : ∀ {xs : List D} {k : Nat} {ρ : Sl}, P k ρ → (∀ i x ρ, xs[i]? = some x → P (k + i) ρ → oq (bind x ρ) fun ρ1 => wS f ρ1 fun fl ρ2 => match fl with
    | .nx => P (k + i + 1) ρ2
    | .ct => P (k + i + 1) ρ2
    | .bk => QS .nx ρ2
    | .rt r => QS (.rt r) ρ2) → (∀ ρ, P (k + xs.length) ρ → QS .nx ρ) → wR bind f xs ρ QS
  | [], k, ρ, h, _, he => he ρ h
  | x :: xs, k, ρ, h, hs, he => by
    rw [wR_cons]
    obtain ⟨ρ1, e1, h1⟩ := oq_iff.mp (hs 0 x ρ rfl h)
    rw [e1]
    refine h1.imp fun fl ρ2 q => ?_
    have go : P (k + 0 + 1) ρ2 → wR bind f xs ρ2 QS := fun q => wR_inv P (xs := xs) (k := k + 1) q (fun i x ρ hx hp => by
      have := hs (i + 1) x ρ (by simpa using hx) (by have e : k + (i + 1) = k + 1 + i := by omega
                                                     rw [e]; exact hp)
      have e : k + (i + 1) + 1 = k + 1 + i + 1 := by omega
      rw [e] at this
      exact this) fun ρ hp => he ρ (by have e : k + (x :: xs).length = k + 1 + xs.length := by simp; omega
                                       rw [e]; exact hp)
    cases fl with
    | nx => exact go q
    | ct => exact go q
    | bk => exact q
    | rt r => exact q
@[simp ↓] theorem wS_While : wS (sWhile n c f) ρ QS ↔ wW c f n ρ QS := Iff.rfl
theorem wW_inv (P : Nat → Sl → Prop) : ∀ {n k : Nat} {ρ : Sl}, k < n → P k ρ → (∀ k ρ, P k ρ → wT c ρ fun b ρ1 => if b = true then wS f ρ1 fun fl ρ2 => match fl with
    | .nx => ∃ k', k' < k ∧ P k' ρ2
    | .ct => ∃ k', k' < k ∧ P k' ρ2
    | .bk => QS .nx ρ2
    | .rt r => QS (.rt r) ρ2
    else QS .nx ρ1) → wW c f n ρ QS
  | 0, k, ρ, h, _, _ => absurd h (Nat.not_lt_zero _)
  | n + 1, k, ρ, h, hp, hs => by
    have h1 := hs k ρ hp
    unfold wW whileN
    unfold wT at h1
    rcases e : c ρ with _ | ⟨b, ρ1⟩
    · rw [e] at h1; exact h1.elim
    rw [e] at h1
    cases b with
    | false => exact h1
    | true =>
      have h1 : wS f ρ1 _ := h1
      obtain ⟨fl, ρ2, e2, hq⟩ := okQ.ex h1
      simp only [e2, if_true]
      cases fl with
      | nx => obtain ⟨k', hk, hp'⟩ := hq; exact wW_inv P (n := n) (k := k') (by omega) hp' hs
      | ct => obtain ⟨k', hk, hp'⟩ := hq; exact wW_inv P (n := n) (k := k') (by omega) hp' hs
      | bk => exact hq
      | rt r => exact hq
@[simp ↓] theorem wI_Range1 : wI (iRange1 fa) ρ QI ↔ wE fa ρ fun r ρ1 => isInt r fun j => (-4611686018427387904 ≤ j ∧ j < 4611686018427387904) ∧ QI ((List.range j.toNat).map fun k : Nat => D.int (k : Int)) ρ1 := by
  unfold wE wI iRange1
  rcases fa ρ with _ | ⟨r, ρ1⟩
  · simp
  cases r with
  | own x => simp [isInt]
  | bor x => simp [isInt]
  | d x =>
    cases x with
    | int j =>
      simp only [okQ_some, isInt_int]
      rw [show (-(2 ^ 62) : Int) = -4611686018427387904 from by decide, show ((2 ^ 62) : Int) = 4611686018427387904 from by decide]
      split
      · rename_i h; simp [h]
      · rename_i h; simp only [okQ_none, false_iff]; exact fun z => h z.1
    | _ => simp [isInt]
@[simp ↓] theorem wI_Range2 : wI (iRange2 fa fb) ρ QI ↔ wE fa ρ fun r ρ1 => isInt r fun i => wE fb ρ1 fun q ρ2 => isInt q fun j => (-4611686018427387904 ≤ i ∧ i < 4611686018427387904 ∧ -4611686018427387904 ≤ j ∧ j < 4611686018427387904) ∧ QI ((List.range (j - i).toNat).map fun k : Nat => D.int (i + (k : Int))) ρ2 := by
  unfold wE wI iRange2
  rcases fa ρ with _ | ⟨r, ρ1⟩
  · simp
  cases r with
  | own x => simp [isInt]
  | bor x => simp [isInt]
  | d x =>
    cases x with
    | int i =>
      simp only [okQ_some, isInt_int]
      rcases fb ρ1 with _ | ⟨q, ρ2⟩
      · simp
      cases q with
      | own x => simp [isInt]
      | bor x => simp [isInt]
      | d y =>
        cases y with
        | int j =>
          simp only [okQ_some, isInt_int]
          rw [show (-(2 ^ 62) : Int) = -4611686018427387904 from by decide, show ((2 ^ 62) : Int) = 4611686018427387904 from by decide]
          split
          · rename_i h; simp [h]
          · rename_i h; simp only [okQ_none, false_iff]; exact fun z => h z.1
        | _ => simp [isInt]
    | _ => simp [isInt]
@[simp ↓] theorem wI_Range3 : wI (iRange3 fa fb fc) ρ QI ↔ wE fa ρ fun r ρ1 => isInt r fun i => wE fb ρ1 fun q ρ2 => isInt q fun j => wE fc ρ2 fun p ρ3 => isInt p fun k => (k = -1 ∧ -4611686018427387904 ≤ i ∧ i < 4611686018427387904 ∧ -4611686018427387904 ≤ j ∧ j < 4611686018427387904) ∧ QI ((List.range (i - j).toNat).map fun k : Nat => D.int (i + -(k : Int))) ρ3 := by
  unfold wE wI iRange3
  rcases fa ρ with _ | ⟨r, ρ1⟩
  · simp
  cases r with
  | own x => simp [isInt]
  | bor x => simp [isInt]
  | d x =>
    cases x with
    | int i =>
      simp only [okQ_some, isInt_int]
      rcases fb ρ1 with _ | ⟨q, ρ2⟩
      · simp
      cases q with
      | own x => simp [isInt]
      | bor x => simp [isInt]
      | d y =>
        cases y with
        | int j =>
          simp only [okQ_some, isInt_int]
          rcases fc ρ2 with _ | ⟨p, ρ3⟩
          · simp
          cases p with
          | own x => simp [isInt]
          | bor x => simp [isInt]
          | d u =>
            cases u with
            | int k =>
              simp only [okQ_some, isInt_int]
              rw [show (-(2 ^ 62) : Int) = -4611686018427387904 from by decide, show ((2 ^ 62) : Int) = 4611686018427387904 from by decide]
              split
              · rename_i h; simp [h]
              · rename_i h; simp only [okQ_none, false_iff]; exact fun z => h z.1
            | _ => simp [isInt]
        | _ => simp [isInt]
    | _ => simp [isInt]
@[simp ↓] theorem wI_Lst : wI (iLst fa) ρ QI ↔ wE (bFz fa) ρ fun r ρ1 => isLst r fun xs => QI xs ρ1 := by
  unfold wE wI iLst
  rcases bFz fa ρ with _ | ⟨r, ρ1⟩
  · simp
  cases r with
  | d x => cases x <;> simp [isBl, isInt, isStr, isLst, isTup]
  | own x => simp [isBl, isInt, isStr, isLst, isTup]
  | bor x => simp [isBl, isInt, isStr, isLst, isTup]
@[simp ↓] theorem wI_Tpl : wI (iTpl fa) ρ QI ↔ wE fa ρ fun r ρ1 => isTup r fun xs => QI xs ρ1 := by
  unfold wE wI iTpl
  rcases fa ρ with _ | ⟨r, ρ1⟩
  · simp
  cases r with
  | d x => cases x <;> simp [isBl, isInt, isStr, isLst, isTup]
  | own x => simp [isBl, isInt, isStr, isLst, isTup]
  | bor x => simp [isBl, isInt, isStr, isLst, isTup]
@[simp ↓] theorem wI_Txt : wI (iTxt fa) ρ QI ↔ wE fa ρ fun r ρ1 => isStr r fun s => QI (s.map fun c => D.str [c]) ρ1 := by
  unfold wE wI iTxt
  rcases fa ρ with _ | ⟨r, ρ1⟩
  · simp
  cases r with
  | d x => cases x <;> simp [isBl, isInt, isStr, isLst, isTup]
  | own x => simp [isBl, isInt, isStr, isLst, isTup]
  | bor x => simp [isBl, isInt, isStr, isLst, isTup]
@[simp ↓] theorem wE_Comp {it : Ix} {vs : List Nat} {bind : Bx} : wE (bComp it vs bind c fe) ρ QE ↔ wI it ρ fun xs ρ1 => noOwn ρ1 vs = true ∧ wC vs bind c fe xs [] (wipeS ρ1 vs) fun ys ρ2 => QE (.own ys) (restS ρ1 ρ2 vs) := by
  unfold wE wI wC bComp
  rcases it ρ with _ | ⟨xs, ρ1⟩
  · simp
  simp only [okQ_some]
  by_cases h : noOwn ρ1 vs = true
  · rw [if_pos h]
    rcases compGo vs bind c fe xs [] (wipeS ρ1 vs) with _ | ⟨ys, ρ2⟩ <;> simp [h]
  · rw [if_neg h]
    simp [h]
theorem wC_inv {vs : List Nat} {bind : Bx} (P : Nat → List D → Sl → Prop) {QC : List D → Sl → Prop} : ∀ {xs acc : List D} {k : Nat} {ρ : Sl}, P k acc ρ → (∀ i x acc ρ, xs[i]? = some x → P (k + i) acc ρ → oq (bind x ρ) fun ρ1 => wT c ρ1 fun b ρ2 => if b = true then wE (bFz fe) ρ2 fun r ρ3 => isD' r fun y => acc.length < 16777216 ∧ P (k + i + 1) (acc ++ [y]) (wipeS ρ3 vs) else P (k + i + 1) acc (wipeS ρ2 vs)) →
    (∀ acc ρ, P (k + xs.length) acc ρ → QC acc ρ) → wC vs bind c fe xs acc ρ QC
  | [], acc, k, ρ, h, _, he => he acc ρ h
  | x :: xs, acc, k, ρ, h, hs, he => by
    obtain ⟨ρ1, e1, h1⟩ := oq_iff.mp (hs 0 x acc ρ rfl h)
    have go : ∀ acc ρ2, P (k + 0 + 1) acc ρ2 → wC vs bind c fe xs acc ρ2 QC := fun acc ρ2 q => wC_inv P (xs := xs) (k := k + 1) q (fun i x acc ρ hx hp => by
      have := hs (i + 1) x acc ρ (by simpa using hx) (by have e : k + (i + 1) = k + 1 + i := by omega
                                                         rw [e]; exact hp)
      have e : k + (i + 1) + 1 = k + 1 + i + 1 := by omega
      rw [e] at this
      exact this) fun acc ρ hp => he acc ρ (by have e : k + (x :: xs).length = k + 1 + xs.length := by simp; omega
                                               rw [e]; exact hp)
    unfold wC compGo
    simp only [e1]
    unfold wT at h1
    rcases e2 : c ρ1 with _ | ⟨b, ρ2⟩
    · rw [e2] at h1; exact h1.elim
    rw [e2] at h1
    simp only
    cases b with
    | false => exact go acc _ h1
    | true =>
      have h1 : wE (bFz fe) ρ2 _ := h1
      obtain ⟨r, ρ3, e3, hq⟩ := okQ.ex h1
      cases r with
      | own x => exact hq.elim
      | bor x => exact hq.elim
      | d y =>
      obtain ⟨hl, hp⟩ := hq
      simp only [e3, hl, if_true]
      exact go _ _ hp
theorem wC_map {vs : List Nat} {bind : Bx} {QC : List D → Sl → Prop} (p : D → Bool) (h : D → D) {xs : List D} (hl : xs.length ≤ 16777216)
    (hs : ∀ x ∈ xs, oq (bind x ρ) fun ρ1 => wT c ρ1 fun b ρ2 => b = p x ∧ if b = true then wE (bFz fe) ρ2 fun r ρ3 => r = .d (h x) ∧ wipeS ρ3 vs = ρ else wipeS ρ2 vs = ρ) (he : QC ((xs.filter p).map h) ρ) : wC vs bind c fe xs [] ρ QC := by
  refine wC_inv (fun i acc ρ' => acc = ((xs.take i).filter p).map h ∧ ρ' = ρ) (xs := xs) (k := 0) ⟨by simp, rfl⟩ (fun i x acc ρ' hx hP => ?_) fun acc ρ' hP => ?_
  · obtain ⟨rfl, rfl⟩ := hP
    have hi : i < xs.length := (List.getElem?_eq_some_iff.mp hx).1
    have hx' : xs[i] = x := (List.getElem?_eq_some_iff.mp hx).2
    obtain ⟨ρ1, e1, h1⟩ := oq_iff.mp (hs x (hx' ▸ List.getElem_mem hi))
    rw [e1]
    refine okQ.imp h1 fun b ρ2 q => ?_
    obtain ⟨hb, q⟩ := q
    have et : xs.take (i + 1) = xs.take i ++ [x] := by rw [List.take_succ_eq_append_getElem hi, hx']
    cases b with
    | false =>
      refine ⟨?_, q⟩
      simp only [Nat.zero_add]
      rw [et, List.filter_append]
      simp [← hb]
    | true =>
      refine okQ.imp (show wE (bFz fe) ρ2 _ from q) fun r ρ3 q => ?_
      obtain ⟨rfl, q⟩ := q
      refine ⟨?_, ?_, q⟩
      · simp only [List.length_map, Nat.zero_add]
        have := List.length_filter_le p (xs.take i)
        simp at this
        omega
      · simp only [Nat.zero_add]
        rw [et, List.filter_append]
        simp [← hb]
  · obtain ⟨rfl, rfl⟩ := hP
    simpa using he
theorem wC_mapA {vs : List Nat} {bind : Bx} {QC : List D → Sl → Prop} (p : D → Bool) (h : D → D) {xs acc0 : List D} (hl : acc0.length + xs.length ≤ 16777216)
    (hs : ∀ x ∈ xs, oq (bind x ρ) fun ρ1 => wT c ρ1 fun b ρ2 => b = p x ∧ if b = true then wE (bFz fe) ρ2 fun r ρ3 => r = .d (h x) ∧ wipeS ρ3 vs = ρ else wipeS ρ2 vs = ρ) (he : QC (acc0 ++ (xs.filter p).map h) ρ) : wC vs bind c fe xs acc0 ρ QC := by
  refine wC_inv (fun i acc ρ' => acc = acc0 ++ ((xs.take i).filter p).map h ∧ ρ' = ρ) (xs := xs) (k := 0) ⟨by simp, rfl⟩ (fun i x acc ρ' hx hP => ?_) fun acc ρ' hP => ?_
  · obtain ⟨rfl, rfl⟩ := hP
    have hi : i < xs.length := (List.getElem?_eq_some_iff.mp hx).1
    have hx' : xs[i] = x := (List.getElem?_eq_some_iff.mp hx).2
    obtain ⟨ρ1, e1, h1⟩ := oq_iff.mp (hs x (hx' ▸ List.getElem_mem hi))
    rw [e1]
    refine okQ.imp h1 fun b ρ2 q => ?_
    obtain ⟨hb, q⟩ := q
    have et : xs.take (i + 1) = xs.take i ++ [x] := by rw [List.take_succ_eq_append_getElem hi, hx']
    cases b with
    | false =>
      refine ⟨?_, q⟩
      simp only [Nat.zero_add]
      rw [et, List.filter_append]
      simp [← hb]
    | true =>
      refine okQ.imp (show wE (bFz fe) ρ2 _ from q) fun r ρ3 q => ?_
      obtain ⟨rfl, q⟩ := q
      refine ⟨?_, ?_, q⟩
      · simp only [List.length_append, List.length_map, Nat.zero_add]
        have := List.length_filter_le p (xs.take i)
        simp at this
        omega
      · simp only [Nat.zero_add]
        rw [et, List.filter_append]
        simp [← hb]
  · obtain ⟨rfl, rfl⟩ := hP
    simpa using he
@[simp ↓] theorem wE_Comp2 {it it1 : Ix} {vs vs1 : List Nat} {bind bind1 : Bx} : wE (bComp2 it vs vs1 bind c it1 bind1 d fe) ρ QE ↔ wI it ρ fun xs ρ1 => noOwn ρ1 vs = true ∧ wC2 vs vs1 bind c it1 bind1 d fe xs [] (wipeS ρ1 vs) fun ys ρ2 => QE (.own ys) (restS ρ1 ρ2 vs) := by
  unfold wE wI wC2 bComp2
  rcases it ρ with _ | ⟨xs, ρ1⟩
  · simp
  simp only [okQ_some]
  by_cases h : noOwn ρ1 vs = true
  · rw [if_pos h]
    rcases comp2Go vs vs1 bind c it1 bind1 d fe xs [] (wipeS ρ1 vs) with _ | ⟨ys, ρ2⟩ <;> simp [h]
  · rw [if_neg h]
    simp [h]
theorem wC2_inv {vs vs1 : List Nat} {it1 : Ix} {bind bind1 : Bx} (P : Nat → List D → Sl → Prop) {QC : List D → Sl → Prop} : ∀ {xs acc : List D} {k : Nat} {ρ : Sl}, P k acc ρ → (∀ i x acc ρ, xs[i]? = some x → P (k + i) acc ρ → oq (bind x ρ) fun ρ1 => wT c ρ1 fun b ρ2 => if b = true then wI it1 ρ2 fun zs ρ3 => wC vs1 bind1 d fe zs acc (wipeS ρ3 vs1) fun acc' ρ4 => P (k + i + 1) acc' (wipeS ρ4 vs) else P (k + i + 1) acc (wipeS ρ2 vs)) →
    (∀ acc ρ, P (k + xs.length) acc ρ → QC acc ρ) → wC2 vs vs1 bind c it1 bind1 d fe xs acc ρ QC
  | [], acc, k, ρ, h, _, he => he acc ρ h
  | x :: xs, acc, k, ρ, h, hs, he => by
    obtain ⟨ρ1, e1, h1⟩ := oq_iff.mp (hs 0 x acc ρ rfl h)
    have go : ∀ acc ρ2, P (k + 0 + 1) acc ρ2 → wC2 vs vs1 bind c it1 bind1 d fe xs acc ρ2 QC := fun acc ρ2 q => wC2_inv P (xs := xs) (k := k + 1) q (fun i x acc ρ hx hp => by
      have := hs (i + 1) x acc ρ (by simpa using hx) (by have e : k + (i + 1) = k + 1 + i := by omega
                                                         rw [e]; exact hp)
      have e : k + (i + 1) + 1 = k + 1 + i + 1 := by omega
      rw [e] at this
      exact this) fun acc ρ hp => he acc ρ (by have e : k + (x :: xs).length = k + 1 + xs.length := by simp; omega
                                               rw [e]; exact hp)
    unfold wC2 comp2Go
    simp only [e1]
    unfold wT at h1
    rcases e2 : c ρ1 with _ | ⟨b, ρ2⟩
    · rw [e2] at h1; exact h1.elim
    rw [e2] at h1
    simp only
    cases b with
    | false => exact go acc _ h1
    | true =>
      have h1 : wI it1 ρ2 _ := h1
      obtain ⟨zs, ρ3, e3, h2⟩ := okQ.ex h1
      obtain ⟨acc', ρ4, e4, h3⟩ := okQ.ex h2
      simp only [e3, e4, if_true]
      exact go _ _ h3
theorem wC2_map {vs vs1 : List Nat} {it1 : Ix} {bind bind1 : Bx} {QC : List D → Sl → Prop} (zs : D → List D) (h : D → D → D) {xs : List D} (hl : (xs.flatMap fun x => (zs x).map (h x)).length ≤ 16777216)
    (hs : ∀ x ∈ xs, oq (bind x ρ) fun ρ1 => wT c ρ1 fun b ρ2 => b = true ∧ wI it1 ρ2 fun ys ρ3 => ys = zs x ∧ ∀ acc : List D, acc.length + (zs x).length ≤ 16777216 → ∀ Q : List D → Sl → Prop, (∀ ρ4, wipeS ρ4 vs = ρ → Q (acc ++ (zs x).map (h x)) ρ4) → wC vs1 bind1 d fe (zs x) acc (wipeS ρ3 vs1) Q) (he : QC (xs.flatMap fun x => (zs x).map (h x)) ρ) : wC2 vs vs1 bind c it1 bind1 d fe xs [] ρ QC := by
  refine wC2_inv (fun i acc ρ' => acc = (xs.take i).flatMap (fun x => (zs x).map (h x)) ∧ ρ' = ρ) (xs := xs) (k := 0) ⟨by simp, rfl⟩ (fun i x acc ρ' hx hP => ?_) fun acc ρ' hP => ?_
  · obtain ⟨rfl, rfl⟩ := hP
    have hi : i < xs.length := (List.getElem?_eq_some_iff.mp hx).1
    have hx' : xs[i] = x := (List.getElem?_eq_some_iff.mp hx).2
    obtain ⟨ρ1, e1, h1⟩ := oq_iff.mp (hs x (hx' ▸ List.getElem_mem hi))
    rw [e1]
    have et : xs.take (i + 1) = xs.take i ++ [x] := by rw [List.take_succ_eq_append_getElem hi, hx']
    refine okQ.imp h1 fun b ρ2 q => ?_
    obtain ⟨rfl, q⟩ := q
    refine okQ.imp q fun ys ρ3 q => ?_
    obtain ⟨rfl, q⟩ := q
    refine q _ ?_ _ fun ρ4 e4 => ⟨?_, e4⟩
    · have e5 : xs = xs.take (i + 1) ++ xs.drop (i + 1) := (List.take_append_drop _ _).symm
      rw [e5, et, List.flatMap_append, List.flatMap_append, List.length_append, List.length_append] at hl
      simp at hl ⊢
      omega
    · simp only [Nat.zero_add]
      rw [et, List.flatMap_append]
      simp
  · obtain ⟨rfl, rfl⟩ := hP
    simpa using he
end
end M
namespace M
open PySem PySem.Spec PyProof.Rows L2 TL
section
variable {i j k : Int} {a b : List Nat} {xs ys : List D} {x y : D} {c d : Bool}
theorem p64 : (2 ^ 64 : Int) = 18446744073709551616 := by decide
theorem p64n : (2 ^ 64 : Nat) = 18446744073709551616 := by decide
@[simp] theorem addD_int : addD (.int i) (.int j) = some (.d (.int (i + j))) := rfl
@[simp] theorem addD_str : addD (.str a) (.str b) = if a.length + b.length ≤ 16777216 then some (.d (.str (a ++ b))) else none := rfl
@[simp] theorem addD_lst : addD (.lst xs) (.lst ys) = if xs.length + ys.length ≤ 16777216 then some (.own (xs ++ ys)) else none := rfl
@[simp] theorem addD_tup : addD (.tup xs) (.tup ys) = if xs.length + ys.length ≤ 16777216 then some (.d (.tup (xs ++ ys))) else none := rfl
@[simp] theorem subD_int : subD (.int i) (.int j) = some (.d (.int (i - j))) := rfl
@[simp] theorem mulD_int : mulD (.int i) (.int j) = if ((-18446744073709551616 < i ∧ i < 18446744073709551616) ∨ (-18446744073709551616 < j ∧ j < 18446744073709551616)) then some (.d (.int (i * j))) else none := by
  simp only [mulD, iiD, mulC, p64, decide_eq_true_eq]
@[simp] theorem fdivD_int : fdivD (.int i) (.int j) = if (0 < j ∧ j < 1073741824) then some (.d (.int (i / j))) else none := by
  simp only [fdivD, iiD, fdivC, decide_eq_true_eq]
@[simp] theorem modD_int : modD (.int i) (.int j) = if 0 < j then some (.d (.int (i % j))) else none := by
  simp only [modD, iiD, modC, decide_eq_true_eq]
@[simp] theorem powD_int : powD (.int i) (.int j) = if (0 ≤ j ∧ j ≤ 1000000 ∧ i.natAbs < 18446744073709551616) then some (.d (.int (i ^ j.toNat))) else none := by
  simp only [powD, iiD, powC, p64n, decide_eq_true_eq]
@[simp] theorem negD_int : negD (.int i) = some (.d (.int (-i))) := rfl
@[simp] theorem ltD_int : ltD (.int i) (.int j) = some (.d (.bl (decide (i < j)))) := rfl
@[simp] theorem leD_int : leD (.int i) (.int j) = some (.d (.bl (decide (i ≤ j)))) := rfl
@[simp] theorem gtD_int : gtD (.int i) (.int j) = some (.d (.bl (decide (j < i)))) := rfl
@[simp] theorem geD_int : geD (.int i) (.int j) = some (.d (.bl (decide (j ≤ i)))) := rfl
@[simp] theorem eqD_int : eqD (.int i) (.int j) = some (.d (.bl (decide (i = j)))) := rfl
@[simp] theorem eqD_str : eqD (.str a) (.str b) = some (.d (.bl (decide (a = b)))) := rfl
@[simp] theorem eqD_bl : eqD (.bl c) (.bl d) = some (.d (.bl (decide (c = d)))) := rfl
@[simp] theorem eqD_non : eqD .non .non = some (.d (.bl true)) := rfl
@[simp] theorem eqD_ns : eqD .non (.str a) = some (.d (.bl false)) := rfl
@[simp] theorem eqD_sn : eqD (.str a) .non = some (.d (.bl false)) := rfl
@[simp] theorem neD_int : neD (.int i) (.int j) = some (.d (.bl (!decide (i = j)))) := rfl
@[simp] theorem neD_str : neD (.str a) (.str b) = some (.d (.bl (!decide (a = b)))) := rfl
@[simp] theorem neD_bl : neD (.bl c) (.bl d) = some (.d (.bl (!decide (c = d)))) := rfl
@[simp] theorem isD_bl : isD (.bl c) (.bl d) = some (.d (.bl (decide (c = d)))) := rfl
@[simp] theorem isD_nn : isD .non .non = some (.d (.bl true)) := rfl
@[simp] theorem isD_in : isD (.int i) .non = some (.d (.bl false)) := rfl
@[simp] theorem isD_sn : isD (.str a) .non = some (.d (.bl false)) := rfl
@[simp] theorem isD_bn : isD (.bl c) .non = some (.d (.bl false)) := rfl
@[simp] theorem isD_ln : isD (.lst xs) .non = some (.d (.bl false)) := rfl
@[simp] theorem isD_tn : isD (.tup xs) .non = some (.d (.bl false)) := rfl
@[simp] theorem isnD_nn : isnD .non .non = some (.d (.bl false)) := rfl
@[simp] theorem isnD_in : isnD (.int i) .non = some (.d (.bl true)) := rfl
@[simp] theorem isnD_sn : isnD (.str a) .non = some (.d (.bl true)) := rfl
@[simp] theorem isnD_bn : isnD (.bl c) .non = some (.d (.bl true)) := rfl
@[simp] theorem isnD_ln : isnD (.lst xs) .non = some (.d (.bl true)) := rfl
@[simp] theorem isnD_tn : isnD (.tup xs) .non = some (.d (.bl true)) := rfl
@[simp] theorem inD_sign {n : Nat} : inD (.str [n]) (.str a) = some (.d (.bl (decide (n ∈ a)))) := rfl
@[simp] theorem ninD_sign {n : Nat} : ninD (.str [n]) (.str a) = some (.d (.bl (!decide (n ∈ a)))) := rfl
@[simp] theorem ixD_lst : ixD (.lst xs) (.int i) = (atI xs i).map .d := rfl
@[simp] theorem ixD_tup : ixD (.tup xs) (.int i) = (atI xs i).map .d := rfl
@[simp] theorem ixD_scr : ixD (.scr xs) (.int i) = (atI xs i).map .d := rfl
theorem ixD_str : ixD (.str a) (.int i) = if a.length ≤ 16777216 then (atI a i).map (fun c => .d (.str [c])) else none := rfl
@[simp] theorem ixD_str' {P : RV → Prop} : oq (ixD (.str a) (.int i)) P ↔ a.length ≤ 16777216 ∧ oq (atI a i) fun c => P (.d (.str [c])) := by
  rw [ixD_str]
  split
  · rename_i h; simp [h]
  · rename_i h; simp [h]
@[simp] theorem lenD_str : lenD [.str a] = if a.length ≤ 16777216 then some (.d (.int a.length)) else none := rfl
@[simp] theorem lenD_lst : lenD [.lst xs] = some (.d (.int xs.length)) := rfl
@[simp] theorem lenD_tup : lenD [.tup xs] = some (.d (.int xs.length)) := rfl
@[simp] theorem lenD_scr : lenD [.scr xs] = some (.d (.int xs.length)) := rfl
@[simp] theorem absD_int : absD [.int i] = some (.d (.int (if i < 0 then -i else i))) := rfl
@[simp] theorem intD_int : intD [.int i] = some (.d (.int i)) := rfl
@[simp] theorem intD_bl : intD [.bl c] = some (.d (.int (if c then 1 else 0))) := rfl
@[simp] theorem minD_2 : minD [.int i, .int j] = some (.d (.int (if j < i then j else i))) := rfl
@[simp] theorem maxD_2 : maxD [.int i, .int j] = some (.d (.int (if j > i then j else i))) := rfl
@[simp] theorem tupleD_lst : tupleD [.lst xs] = some (.d (.tup xs)) := rfl
@[simp] theorem tupleD_tup : tupleD [.tup xs] = some (.d (.tup xs)) := rfl
@[simp] theorem listD_lst : listD [.lst xs] = some (.own xs) := rfl
@[simp] theorem listD_tup : listD [.tup xs] = some (.own xs) := rfl
@[simp] theorem listD_scr : listD [.scr xs] = some (.own xs) := rfl
@[simp] theorem appendD_1 : appendD xs [x] = if xs.length < 16777216 then some (xs ++ [x], .non) else none := rfl
@[simp] theorem extendD_1 : extendD xs [.lst ys] = if xs.length + ys.length ≤ 16777216 then some (xs ++ ys, .non) else none := rfl
@[simp] theorem okQ_ite {α β : Type} {p : Prop} [Decidable p] {r : α} {s : β} {Q : α → β → Prop} : okQ (if p then some (r, s) else none) Q ↔ p ∧ Q r s := by by_cases h : p <;> simp [h]
theorem popAtD_1 {n : Nat} (h : n < xs.length) (hl : xs.length ≤ 16777216) : popAtD xs [.int n] = some (xs.eraseIdx n, xs[n]) := by
  have e : seqIndex? (n : Int) xs.length = some n := by
    unfold seqIndex?
    have h1 : ¬ ((n : Int) < 0) := by omega
    simp [h1, h]
  unfold popAtD
  simp only [e]
  rw [if_pos ⟨by omega, by omega⟩]
  rw [List.getElem?_eq_getElem h]
theorem intsOf_ints : ∀ ns : List Int, intsOf (ns.map .int) = some ns
  | [] => rfl
  | n :: ns => by simp [intsOf, intsOf_ints ns]
theorem boolsOf_bls : ∀ ns : List Bool, boolsOf (ns.map .bl) = some ns
  | [] => rfl
  | n :: ns => by simp [boolsOf, boolsOf_bls ns]
theorem strsOf_strs : ∀ ns : List (List Nat), strsOf (ns.map .str) = some ns
  | [] => rfl
  | n :: ns => by simp [strsOf, strsOf_strs ns]
theorem joinL_nil : ∀ ps : List (List Nat), joinL [] ps = ps.flatten
  | [] => rfl
  | [p] => by simp [joinL]
  | p :: q :: r => by
    show p ++ ([] ++ joinL [] (q :: r)) = _
    rw [joinL_nil (q :: r)]
    simp
theorem joinD_lst (ps : List (List Nat)) (h : (ps.map (·.length)).sum ≤ 16777216) : joinD [] [.lst (ps.map .str)] = some (.d (.str ps.flatten)) := by
  simp only [joinD, strsOf_strs]
  simp [joinL_nil, h]
theorem sumD_lst (ns : List Int) : sumD [.lst (ns.map .int)] = some (.d (.int ns.sum)) := by
  unfold sumD anyL
  simp [intsOf_ints]
theorem allD_lst (bs : List Bool) : allD [.lst (bs.map .bl)] = some (.d (.bl (bs.all id))) := by
  unfold allD
  simp [boolsOf_bls]
theorem anyD_lst (bs : List Bool) : anyD [.lst (bs.map .bl)] = some (.d (.bl (bs.any id))) := by
  unfold anyD
  simp [boolsOf_bls]
theorem minD_lst (n : Int) (ns : List Int) : minD [.lst ((n :: ns).map .int)] = some (.d (.int (minL n ns))) := by
  simp only [minD, intsOf_ints]
theorem maxD_lst (n : Int) (ns : List Int) : maxD [.lst ((n :: ns).map .int)] = some (.d (.int (maxL n ns))) := by
  simp only [maxD, intsOf_ints]
theorem atI_nat {α : Type} {l : List α} {n : Nat} (h : n < l.length) : atI l (n : Int) = some l[n] := by
  unfold atI ixN
  rw [if_pos (by omega), if_pos (by omega)]
  simp [h]
theorem atI_int {α : Type} {l : List α} {n : Int} (h0 : 0 ≤ n) (h : n < l.length) : atI l n = some (l[n.toNat]'(by omega)) := by
  unfold atI ixN
  rw [if_pos h0, if_pos h]
  have : n.toNat < l.length := by omega
  simp [this]
theorem ixN_nat {n m : Nat} (h : n < m) : ixN m (n : Int) = some n := by
  unfold ixN
  rw [if_pos (by omega), if_pos (by omega)]
  simp
@[simp] theorem atI_0 {α : Type} {x0 : α} {l : List α} : atI (x0 :: l) 0 = some x0 := by
  have := atI_nat (l := x0 :: l) (n := 0) (by simp)
  simpa using this
@[simp] theorem ixN_0 {n : Nat} (h : 0 < n) : ixN n 0 = some 0 := ixN_nat h
@[simp] theorem atI_1 {α : Type} {x0 x1 : α} {l : List α} : atI (x0 :: x1 :: l) 1 = some x1 := by
  have := atI_nat (l := x0 :: x1 :: l) (n := 1) (by simp)
  simpa using this
@[simp] theorem ixN_1 {n : Nat} (h : 1 < n) : ixN n 1 = some 1 := ixN_nat h
@[simp] theorem atI_2 {α : Type} {x0 x1 x2 : α} {l : List α} : atI (x0 :: x1 :: x2 :: l) 2 = some x2 := by
  have := atI_nat (l := x0 :: x1 :: x2 :: l) (n := 2) (by simp)
  simpa using this
@[simp] theorem ixN_2 {n : Nat} (h : 2 < n) : ixN n 2 = some 2 := ixN_nat h
@[simp] theorem atI_3 {α : Type} {x0 x1 x2 x3 : α} {l : List α} : atI (x0 :: x1 :: x2 :: x3 :: l) 3 = some x3 := by
  have := atI_nat (l := x0 :: x1 :: x2 :: x3 :: l) (n := 3) (by simp)
  simpa using this
@[simp] theorem ixN_3 {n : Nat} (h : 3 < n) : ixN n 3 = some 3 := ixN_nat h
@[simp] theorem atI_4 {α : Type} {x0 x1 x2 x3 x4 : α} {l : List α} : atI (x0 :: x1 :: x2 :: x3 :: x4 :: l) 4 = some x4 := by
  have := atI_nat (l := x0 :: x1 :: x2 :: x3 :: x4 :: l) (n := 4) (by simp)
  simpa using this
@[simp] theorem ixN_4 {n : Nat} (h : 4 < n) : ixN n 4 = some 4 := ixN_nat h
@[simp] theorem slD_str {lo hi : Option Int} {P : RV → Prop} : oq (slD (.str a) lo hi) P ↔ a.length ≤ 16777216 ∧ P (.d (.str (cutL a lo hi))) := by
  unfold slD
  simp
@[simp] theorem slD_lst {lo hi : Option Int} : slD (.lst xs) lo hi = some (.own (cutL xs lo hi)) := rfl
@[simp] theorem slD_scr {lo hi : Option Int} : slD (.scr xs) lo hi = some (.own (cutL xs lo hi)) := rfl
@[simp] theorem slD_tup {lo hi : Option Int} : slD (.tup xs) lo hi = some (.d (.tup (cutL xs lo hi))) := rfl
section
variable {α : Type} {l : List α}
theorem sIx_int {n d : Nat} {v : Int} (h : 0 ≤ v) : HT.sIx n d (some v) = min v.toNat n := by
  show (if v < 0 then (v + (n : Int)).toNat else min v.toNat n) = min v.toNat n
  rw [if_neg (by omega)]
theorem sIx_neg {n d : Nat} {v : Int} (h : v < 0) : HT.sIx n d (some v) = (v + (n : Int)).toNat := by
  show (if v < 0 then (v + (n : Int)).toNat else min v.toNat n) = _
  rw [if_pos h]
theorem cutL_to {v : Int} (h : 0 ≤ v) : cutL l none (some v) = l.take v.toNat := by
  unfold cutL
  rw [sIx_int h]
  show (l.drop 0).take (min v.toNat l.length - 0) = _
  rw [List.drop_zero, Nat.sub_zero, ← List.take_eq_take_min]
theorem cutL_from {v : Int} (h : 0 ≤ v) : cutL l (some v) none = l.drop v.toNat := by
  unfold cutL
  rw [sIx_int h]
  show (l.drop (min v.toNat l.length)).take (l.length - min v.toNat l.length) = _
  rw [List.take_of_length_le (by simp)]
  by_cases h1 : v.toNat ≤ l.length
  · rw [Nat.min_eq_left h1]
  · rw [Nat.min_eq_right (by omega), List.drop_of_length_le (Nat.le_refl _), List.drop_of_length_le (by omega)]
theorem cutL_both {u v : Int} (h1 : 0 ≤ u) (h2 : 0 ≤ v) : cutL l (some u) (some v) = (l.drop u.toNat).take (v.toNat - u.toNat) := by
  unfold cutL
  rw [sIx_int h1, sIx_int h2]
  by_cases h : u.toNat ≤ l.length
  · rw [Nat.min_eq_left h]
    by_cases h' : v.toNat ≤ l.length
    · rw [Nat.min_eq_left h']
    · rw [Nat.min_eq_right (by omega), List.take_of_length_le (by simp), List.take_of_length_le (by simp; omega)]
  · rw [Nat.min_eq_right (a := u.toNat) (by omega), List.drop_of_length_le (Nat.le_refl _), List.drop_of_length_le (by omega)]
    simp
theorem cutL_tail {u : Int} (h1 : u < 0) : cutL l (some u) none = l.drop (u + l.length).toNat := by
  unfold cutL
  rw [sIx_neg h1]
  show (l.drop _).take (l.length - _) = _
  rw [List.take_of_length_le (by simp)]
theorem cutL_init {u : Int} (h1 : u < 0) : cutL l none (some u) = l.take (u + l.length).toNat := by
  unfold cutL
  rw [sIx_neg h1]
  show (l.drop 0).take (_ - 0) = _
  rw [List.drop_zero, Nat.sub_zero]
theorem cutL_mid {u v : Int} (h1 : u < 0) (h2 : v < 0) : cutL l (some u) (some v) = (l.drop (u + l.length).toNat).take ((v + l.length).toNat - (u + l.length).toNat) := by
  unfold cutL
  rw [sIx_neg h1, sIx_neg h2]
end
theorem oks_map {α : Type} {f : α → D} (h : ∀ x, (f x).ok = true) : ∀ l : List α, oks (l.map f) = true
  | [] => rfl
  | x :: l => by simp [oks, h, oks_map h l]
theorem deps_map {α : Type} {f : α → D} (h : ∀ x, (f x).dep = 0) : ∀ l : List α, deps (l.map f) = 0
  | [] => rfl
  | x :: l => by simp [deps, h, deps_map h l]
theorem okD_ints (l : List Int) : okD (.lst (l.map .int)) = true := by
  have h1 := oks_map (f := D.int) (fun _ => rfl) l
  have h2 := deps_map (f := D.int) (fun _ => rfl) l
  simp [okD, D.ok, D.dep, h1, h2]
theorem range_at {α : Type} {f : Nat → α} {n i : Nat} {x : α} (h : (List.map f (List.range n))[i]? = some x) : i < n ∧ x = f i := by
  rw [List.getElem?_map] at h
  obtain ⟨y, h1, h2⟩ := Option.map_eq_some_iff.mp h
  obtain ⟨h3, h4⟩ := List.getElem?_eq_some_iff.mp h1
  simp at h3 h4
  exact ⟨h3, by rw [← h2, ← h4]⟩
theorem map_at {α β : Type} {f : α → β} {l : List α} {i : Nat} {x : β} (h : (List.map f l)[i]? = some x) : ∃ y, l[i]? = some y ∧ x = f y := by
  rw [List.getElem?_map] at h
  obtain ⟨y, h1, h2⟩ := Option.map_eq_some_iff.mp h
  exact ⟨y, h1, h2.symm⟩
theorem eqB_lst_nil (h : okD (.lst xs) = true) : eqB (.lst xs) (.lst []) = some xs.isEmpty := by
  have e : okD (.lst []) = true := by decide
  simp only [eqB, h, e]
  cases xs with
  | nil => rfl
  | cons x xs => rfl
theorem eqD_lst_nil (h : okD (.lst xs) = true) : eqD (.lst xs) (.lst []) = some (.d (.bl xs.isEmpty)) := by
  unfold eqD
  rw [eqB_lst_nil h]
  rfl
theorem neD_lst_nil (h : okD (.lst xs) = true) : neD (.lst xs) (.lst []) = some (.d (.bl (!xs.isEmpty))) := by
  unfold neD
  rw [eqB_lst_nil h]
  rfl
theorem okD_nats (l : List Nat) : okD (.lst (l.map fun (k : Nat) => .int (k : Int))) = true := by
  have h1 := oks_map (f := fun k : Nat => D.int (k : Int)) (fun _ => rfl) l
  have h2 := deps_map (f := fun k : Nat => D.int (k : Int)) (fun _ => rfl) l
  simp [okD, D.ok, D.dep, h1, h2]
theorem erase_map {α β : Type} {f : α → β} : ∀ (l : List α) (n : Nat), (l.map f).eraseIdx n = (l.eraseIdx n).map f
  | [], n => by simp
  | x :: l, 0 => by simp
  | x :: l, n + 1 => by simp [erase_map l n]
@[simp] theorem isiD_ap {T : String} {P : RV → Prop} : oq (isiD T [x, .ptr (.ty T)]) P ↔ oq (tyD x) fun A => oq (kitB A T) fun b => P (.d (.bl b)) := by
  unfold isiD
  simp
  cases tyD x <;> simp
@[simp] theorem tyD_non : tyD .non = some "NoneType" := rfl
@[simp] theorem tyD_bl : tyD (.bl c) = some "bool" := rfl
@[simp] theorem tyD_int : tyD (.int i) = some "int" := rfl
@[simp] theorem tyD_str : tyD (.str a) = some "str" := rfl
@[simp] theorem tyD_lst : tyD (.lst xs) = some "list" := rfl
@[simp] theorem tyD_tup : tyD (.tup xs) = some "tuple" := rfl
@[simp] theorem kit_NoneType_str : kitB "NoneType" "str" = some false := by decide +kernel
@[simp] theorem kit_NoneType_int : kitB "NoneType" "int" = some false := by decide +kernel
@[simp] theorem kit_NoneType_bool : kitB "NoneType" "bool" = some false := by decide +kernel
@[simp] theorem kit_NoneType_list : kitB "NoneType" "list" = some false := by decide +kernel
@[simp] theorem kit_NoneType_tuple : kitB "NoneType" "tuple" = some false := by decide +kernel
@[simp] theorem kit_NoneType_dict : kitB "NoneType" "dict" = some false := by decide +kernel
@[simp] theorem kit_bool_str : kitB "bool" "str" = some false := by decide +kernel
@[simp] theorem kit_bool_int : kitB "bool" "int" = some true := by decide +kernel
@[simp] theorem kit_bool_bool : kitB "bool" "bool" = some true := by decide +kernel
@[simp] theorem kit_bool_list : kitB "bool" "list" = some false := by decide +kernel
@[simp] theorem kit_bool_tuple : kitB "bool" "tuple" = some false := by decide +kernel
@[simp] theorem kit_bool_dict : kitB "bool" "dict" = some false := by decide +kernel
@[simp] theorem kit_int_str : kitB "int" "str" = some false := by decide +kernel
@[simp] theorem kit_int_int : kitB "int" "int" = some true := by decide +kernel
@[simp] theorem kit_int_bool : kitB "int" "bool" = some false := by decide +kernel
@[simp] theorem kit_int_list : kitB "int" "list" = some false := by decide +kernel
@[simp] theorem kit_int_tuple : kitB "int" "tuple" = some false := by decide +kernel
@[simp] theorem kit_int_dict : kitB "int" "dict" = some false := by decide +kernel
@[simp] theorem kit_str_str : kitB "str" "str" = some true := by decide +kernel
@[simp] theorem kit_str_int : kitB "str" "int" = some false := by decide +kernel
@[simp] theorem kit_str_bool : kitB "str" "bool" = some false := by decide +kernel
@[simp] theorem kit_str_list : kitB "str" "list" = some false := by decide +kernel
@[simp] theorem kit_str_tuple : kitB "str" "tuple" = some false := by decide +kernel
@[simp] theorem kit_str_dict : kitB "str" "dict" = some false := by decide +kernel
@[simp] theorem kit_list_str : kitB "list" "str" = some false := by decide +kernel
@[simp] theorem kit_list_int : kitB "list" "int" = some false := by decide +kernel
@[simp] theorem kit_list_bool : kitB "list" "bool" = some false := by decide +kernel
@[simp] theorem kit_list_list : kitB "list" "list" = some true := by decide +kernel
@[simp] theorem kit_list_tuple : kitB "list" "tuple" = some false := by decide +kernel
@[simp] theorem kit_list_dict : kitB "list" "dict" = some false := by decide +kernel
@[simp] theorem kit_tuple_str : kitB "tuple" "str" = some false := by decide +kernel
@[simp] theorem kit_tuple_int : kitB "tuple" "int" = some false := by decide +kernel
@[simp] theorem kit_tuple_bool : kitB "tuple" "bool" = some false := by decide +kernel
@[simp] theorem kit_tuple_list : kitB "tuple" "list" = some false := by decide +kernel
@[simp] theorem kit_tuple_tuple : kitB "tuple" "tuple" = some true := by decide +kernel
@[simp] theorem kit_tuple_dict : kitB "tuple" "dict" = some false := by decide +kernel
theorem cutL_one {α : Type} {l : List α} {k : Nat} (h : k < l.length) : cutL l (some (k : Int)) (some ((k : Int) + 1)) = [l[k]] := by
  rw [cutL_both (by omega) (by omega)]
  have e : ((k : Int) + 1).toNat - (k : Int).toNat = 1 := by omega
  rw [e, Int.toNat_natCast, List.drop_eq_getElem_cons h]
  rfl
@[simp] theorem noOwn_nil {ρ : Sl} : noOwn ρ [] = true := rfl
@[simp] theorem noOwn_cons {ρ : Sl} {v : Nat} {vs : List Nat} : noOwn ρ (v :: vs) = ((match ρ[v]? with
  | some (some (.own _ _)) => false
  | _ => true) && noOwn ρ vs) := rfl
@[simp] theorem wipeS_nil {ρ : Sl} : wipeS ρ [] = ρ := rfl
@[simp] theorem wipeS_cons {ρ : Sl} {v : Nat} {vs : List Nat} : wipeS ρ (v :: vs) = (wipeS ρ vs).set v none := rfl
@[simp] theorem restS_nil {ρ ρ' : Sl} : restS ρ ρ' [] = ρ' := rfl
@[simp] theorem restS_cons {ρ ρ' : Sl} {v : Nat} {vs : List Nat} : restS ρ ρ' (v :: vs) = (restS ρ ρ' vs).set v (ρ.getD v none) := rfl
@[simp] theorem eqD_nils : eqD (.lst []) (.lst []) = some (.d (.bl true)) := eqD_lst_nil (by decide)
@[simp] theorem neD_nils : neD (.lst []) (.lst []) = some (.d (.bl false)) := neD_lst_nil (by decide)
theorem wC_none {ρ : Sl} {vs : List Nat} {bind : Bx} {cd : Tx} {fe : Ex} {QC : List D → Sl → Prop} (hs : ∀ x ∈ xs, oq (bind x ρ) fun ρ1 => wT cd ρ1 fun b ρ2 => b = false ∧ wipeS ρ2 vs = ρ) (he : QC [] ρ) (hl : xs.length ≤ 16777216) : wC vs bind cd fe xs [] ρ QC := by
  have e0 : xs.filter (fun _ => false) = [] := List.filter_eq_nil_iff.mpr (by simp)
  refine wC_map (fun _ => false) id hl (fun x hx => ?_) (by rw [e0]; exact he)
  have := hs x hx
  obtain ⟨ρ1, e, h⟩ := oq_iff.mp this
  rw [e]
  refine okQ.imp h fun b ρ2 q => ?_
  obtain ⟨rfl, q⟩ := q
  exact ⟨rfl, q⟩
theorem mem_range_map {α : Type} {f : Nat → α} {n : Nat} {x : α} (h : x ∈ (List.range n).map f) : ∃ k, k < n ∧ x = f k := by
  obtain ⟨k, h1, h2⟩ := List.mem_map.mp h
  exact ⟨k, List.mem_range.mp h1, h2.symm⟩
theorem okD_map {α : Type} {f : α → D} (h : ∀ x, (f x).ok = true) (h' : ∀ x, (f x).dep = 0) (l : List α) : okD (.lst (l.map f)) = true := by
  have h1 := oks_map h l
  have h2 := deps_map h' l
  simp [okD, D.ok, D.dep, h1, h2]
theorem eqD_tup_nil (h : okD (.tup xs) = true) : eqD (.tup xs) (.tup []) = some (.d (.bl xs.isEmpty)) := by
  have e : okD (.tup []) = true := by decide
  simp only [eqD, eqB, h, e]
  cases xs with
  | nil => rfl
  | cons x xs => rfl
theorem oks_all : ∀ {l : List D}, (∀ x ∈ l, x.ok = true) → oks l = true
  | [], _ => rfl
  | x :: l, h => by simp [oks, h x, oks_all (l := l) fun y hy => h y (by simp [hy])]
theorem deps_all : ∀ {l : List D}, (∀ x ∈ l, x.dep = 0) → deps l = 0
  | [], _ => rfl
  | x :: l, h => by simp [deps, h x, deps_all (l := l) fun y hy => h y (by simp [hy])]
theorem okD_tup_strs {l : List (List Nat)} (h : ∀ u ∈ l, ∀ c ∈ u, c < 1114112) : okD (.tup (l.map .str)) = true := by
  have h1 : oks (l.map .str) = true := oks_all fun x hx => by
    obtain ⟨u, hu, rfl⟩ := List.mem_map.mp hx
    simp [D.ok]
    exact h u hu
  have h2 : deps (l.map .str) = 0 := deps_all fun x hx => by
    obtain ⟨u, hu, rfl⟩ := List.mem_map.mp hx
    rfl
  simp [okD, D.ok, D.dep, h1, h2]
theorem okD_lst_strs {l : List (List Nat)} (h : ∀ u ∈ l, ∀ c ∈ u, c < 1114112) : okD (.lst (l.map .str)) = true := by
  have h1 : oks (l.map .str) = true := oks_all fun x hx => by
    obtain ⟨u, hu, rfl⟩ := List.mem_map.mp hx
    simp [D.ok]
    exact h u hu
  have h2 : deps (l.map .str) = 0 := deps_all fun x hx => by
    obtain ⟨u, hu, rfl⟩ := List.mem_map.mp hx
    rfl
  simp [okD, D.ok, D.dep, h1, h2]
end
end M
namespace M
open PySem PySem.Spec PyProof.Rows L2 TL
def wB (f : Ib) (ρ : Sl) (fs : List (Str × D)) (Q : Fl → Sl → List (Str × D) → Prop) (_ : Dep Q := .mk) : Prop := match f ρ fs with
  | some (fl, ρ', fs') => Q fl ρ' fs'
  | none => False
def isNx (fl : Fl) (P : Prop) (_ : Dep P := .mk) : Prop := match fl with | .nx => P | _ => False
@[simp ↓] theorem isNx_nx {P : Prop} : isNx .nx P ↔ P := Iff.rfl
section
variable {ρ : Sl} {fs : List (Str × D)} {QB : Fl → Sl → List (Str × D) → Prop} {f : Sx} {g : Ib} {fe : Ex} {o : Addr} {n : Str}
@[simp ↓] theorem wB_nil : wB iNil ρ fs QB ↔ QB .nx ρ fs := Iff.rfl
@[simp ↓] theorem wB_st : wB (iSt f g) ρ fs QB ↔ wS f ρ fun fl ρ1 => isNx fl (wB g ρ1 fs QB) := by
  unfold wB wS iSt
  rcases f ρ with _ | ⟨fl, ρ1⟩
  · simp
  cases fl <;> simp [isNx]
@[simp ↓] theorem wB_fld : wB (iFld o n fe g) ρ fs QB ↔ wE (bFz fe) ρ fun r ρ1 => isD' r fun d => (fs.length < 1000 ∧ selfAt ρ1 o = true) ∧ wB g ρ1 (putD n d fs) QB := by
  unfold wB wE iFld
  rcases bFz fe ρ with _ | ⟨r, ρ1⟩
  · simp
  cases r with
  | own x => simp
  | bor x => simp
  | d d =>
    simp only [okQ_some, isD'_d]
    by_cases h : fs.length < 1000 ∧ selfAt ρ1 o = true
    · rw [if_pos h]; simp [h]
    · rw [if_neg h]; simp only [false_iff]; exact fun z => h z.1
theorem runI_of {B : Ib} {k : Nat} {ds : List D} {r : List (Str × D)} (h : wB B ((some (.d (.ptr (.ref o))) :: ds.map fun d => some (.d d)) ++ List.replicate (k - (ds.length + 1)) none) [] fun fl _ fs => fl = .nx ∧ fs = r) : runI k B o ds = some r := by
  unfold runI
  unfold wB at h
  split at h
  · rename_i e
    obtain ⟨rfl, rfl⟩ := h
    rw [e]
  · exact h.elim
@[simp] theorem selfAt_ap : selfAt (some (.d (.ptr (.ref o))) :: ρ) o = true := by
  simp [selfAt]
end
end M
namespace K52
open PySem PySem.Spec PyProof.Rows L2 TL M
def topS (i : Nat) : Stmt := PySem.Challenge.pw_stringbench_k52_whole_squares_kept.main.body.getD i (.Pass ⟨0, 0, 0, 0⟩)
structure Tx (K : PySem.W.Frag) (mg : Str → Option Value) : Prop where
  b_abs : mg "abs" = none
  b_all : mg "all" = none
  b_bool : mg "bool" = none
  b_dict : mg "dict" = none
  b_int : mg "int" = none
  b_isinstance : mg "isinstance" = none
  b_len : mg "len" = none
  b_list : mg "list" = none
  b_max : mg "max" = none
  b_min : mg "min" = none
  b_range : mg "range" = none
  b_str : mg "str" = none
  b_sum : mg "sum" = none
  b_tuple : mg "tuple" = none
  c_LETTERS : GStr mg "LETTERS" [97, 98, 99, 100]
  c_MOST_LETTERS : GInt mg "MOST_LETTERS" 200
  c_BASE : GInt mg "BASE" 4
  c_MOST_IMAGE : GInt mg "MOST_IMAGE" 12
  c_MOST_SQUARE : GInt mg "MOST_SQUARE" 3
  d_is_letters : DFD K mg "is_letters" (topS 8) [V.int 4, V.int 200]
  d_is_power : DF K mg "is_power" (topS 10)
  d_first_power : DF K mg "first_power" (topS 11)
  d_overlap_place : DF K mg "overlap_place" (topS 12)
  d_has_kind : DF K mg "has_kind" (topS 14)
  d_ends_with_kind : DF K mg "ends_with_kind" (topS 15)
  d_longer_words : DF K mg "longer_words" (topS 16)
  d_image_of : DF K mg "image_of" (topS 19)
  d_breaking : DF K mg "breaking" (topS 23)
  d_bound_for : DF K mg "bound_for" (topS 24)
  d_square_break : DF K mg "square_break" (topS 25)
  d__law_cell : DF K mg "_law_cell" (topS 27)
  d__law_box : DF K mg "_law_box" (topS 28)
  d__law_take : DF K mg "_law_take" (topS 29)
  d__law_same : DF K mg "_law_same" (topS 30)
  d__law_mixed : DF K mg "_law_mixed" (topS 31)
  d__law_drawn : DF K mg "_law_drawn" (topS 32)
  d__law_near : DF K mg "_law_near" (topS 33)
  d__law_image : DF K mg "_law_image" (topS 34)
  d__law_has_square : DF K mg "_law_has_square" (topS 35)
  d__law_ends_square : DF K mg "_law_ends_square" (topS 36)
  d__law_break : DF K mg "_law_break" (topS 37)
  d__law_free : DF K mg "_law_free" (topS 38)
  d__law_images : DF K mg "_law_images" (topS 39)
  m_Morphism : MkF K mg "Morphism" "Morphism.__init__" (inClass (topS 20) 0) ["images", "letters"]
noncomputable section
variable {P : Program} {w : World} {K : PySem.W.Frag} {mg : Str → Option Value} {base : Heap}
abbrev s_is_letters : Stmt := topS 8
abbrev N_is_letters : List Str := ["value", "letters", "most", "sign"]
theorem sc_is_letters : FnScope N_is_letters ["value", "letters", "most"] (defScope s_is_letters) := ⟨rfl, rfl, rfl, by decide +kernel, rfl, by decide +kernel, by decide +kernel⟩
def B_is_letters : Sx := sSeq (sIf (bOr (bNot (bT (bFn (isiD "str") (aCons (bV 0) (aCons (bC (.ptr (.ty "str"))) aNil))))) (bT (bOp gtD (bFn lenD (aCons (bV 0) (aNil))) (bV 2)))) (sRet (bC (.bl false))) (sNx))
    (sRet (bFn allD (aCons (bComp (iTxt (bV 0)) [3] (bName 3) (bYes) (bOp inD (bV 3) (bSl (bC (.str [97, 98, 99, 100])) (oNone) (oSome (bV 1))))) (aNil))))
def F_is_letters : Fx := runB 4 3 B_is_letters
theorem ok_is_letters (T : Tx K mg) : DefD P w K mg base "is_letters" 1 ["value", "letters", "most"] [V.int 4, V.int 200] F_is_letters :=
  defD_of (n := 1) T.d_is_letters (fun f fd F => by
   unfold F_is_letters
   exact fnD_ok (N := N_is_letters) (body := B_is_letters) F sc_is_letters fun cdv A outer s H E hr =>
    (bv_cons (sv_if (tv_w (wv_or (tv_not (tv_val (ev_fn call_isi fnd_isi rfl T.b_isinstance PyProof.Rows.boot_isinstance (av_cons (ev_n 0) (av_cons (ev_cls rfl T.b_str (by decide +kernel)) av_nil))))) (wv_one_or (tv_cmp op_gt opd_ib (nomark _) (ev_fn call_len fnd_len rfl T.b_len PySem.boot_len (av_cons (ev_n 0) av_nil)) (ev_n 2))))) (bv_one (sv_ret ev_bl)) bv_nil)
    (bv_one (sv_ret (ev_fn (cr_all rfl) fnd_all rfl T.b_all PyProof.Rows.boot_all (av_cons (ev_comp (own := [("sign", 3)]) rfl sc_is_letters.nd (blkOk_by (N := N_is_letters) (sc := defScope s_is_letters) (by decide +kernel)) (iv_txt (ev_n 0)) (fun _ _ _ _ _ => (gv_n 3 sc_is_letters.nd)) (fun _ _ _ _ _ => tsv_nil) (fun _ _ _ _ _ => (ev_cmp op_inX opd_in (by rfl) (ev_n 3) (ev_slice (ev_gstr T.c_LETTERS rfl) ov_none (ov_some (ev_n 1)))))) av_nil)))))) (by simp) rfl (fun j hj => match j, hj with | 0, _ => fun T kV doc pm an cdv ct us its h1 h2 => (match us, h1, its, h2 with | [_], _, [_, _], _ => ⟨_, rfl, rfl⟩) | 1, _ => fun T kV doc pm an cdv ct us its h1 h2 => (match us, h1, its, h2 with | [_, _], _, [_, _], _ => ⟨_, rfl, rfl⟩) | 2, _ => fun T kV doc pm an cdv ct us its h1 h2 => (match us, h1, its, h2 with | [_, _, _], _, [_, _], _ => ⟨_, rfl, rfl⟩) | (k + 3), h => absurd h (by simp))
abbrev s_is_power : Stmt := topS 10
abbrev N_is_power : List Str := ["word", "start", "size", "number", "end"]
theorem sc_is_power : FnScope N_is_power ["word", "start", "size", "number"] (defScope s_is_power) := ⟨rfl, rfl, rfl, by decide +kernel, rfl, by decide +kernel, by decide +kernel⟩
def B_is_power : Sx := sSeq (sSet 4 (bOp addD (bV 1) (bOp mulD (bV 2) (bV 3))))
    (sRet (bAndV (bOp leD (bV 4) (bFn lenD (aCons (bV 0) (aNil)))) (bOp eqD (bSl (bV 0) (oSome (bV 1)) (oSome (bOp subD (bV 4) (bV 2)))) (bSl (bV 0) (oSome (bOp addD (bV 1) (bV 2))) (oSome (bV 4))))))
def F_is_power : Fx := runB 5 4 B_is_power
theorem fok_is_power (T : Tx K mg) (f : Addr) (fd : FuncData) (F : Fun K "is_power" "is_power" s_is_power f fd) : FnOk P w K mg base CX0 1 f fd ["word", "start", "size", "number"] (spV K F_is_power) := fn_ok (N := N_is_power) (body := B_is_power) F sc_is_power rfl fun cdv A outer s H E hr =>
    (bv_cons (sv_n 4 sc_is_power.nd (ev_add (ev_n 1) (ev_mul (ev_n 2) (ev_n 3))))
    (bv_one (sv_ret (ev_and (ev_cmp op_le opd_ib (nomark _) (ev_n 4) (ev_fn call_len fnd_len rfl T.b_len PySem.boot_len (av_cons (ev_n 0) av_nil))) (ev_one (ev_cmp (op_eqX (hr.units)) opd_eq (nomark _) (ev_slice (ev_n 0) (ov_some (ev_n 1)) (ov_some (ev_sub (ev_n 4) (ev_n 2)))) (ev_slice (ev_n 0) (ov_some (ev_add (ev_n 1) (ev_n 2))) (ov_some (ev_n 4)))))))))
theorem ok_is_power (T : Tx K mg) : DefOk P w K mg base "is_power" 1 ["word", "start", "size", "number"] F_is_power := def_of T.d_is_power (fok_is_power T) (fun _ _ _ _ _ _ us hl => match us, hl with | [_, _, _, _], _ => rfl)
abbrev s_first_power : Stmt := topS 11
abbrev N_first_power : List Str := ["word", "number", "end", "size"]
theorem sc_first_power : FnScope N_first_power ["word", "number"] (defScope s_first_power) := ⟨rfl, rfl, rfl, by decide +kernel, rfl, by decide +kernel, by decide +kernel⟩
def B_first_power : Sx := sSeq (sFor (iRange2 (bV 1) (bOp addD (bFn lenD (aCons (bV 0) (aNil))) (bC (.int 1)))) (bName 2) (sFor (iRange3 (bOp fdivD (bV 2) (bV 1)) (bC (.int 0)) (bUn negD (bC (.int 1)))) (bName 3) (sIf (bT (bCall F_is_power (aCons (bFz (bSl (bV 0) (oNone) (oSome (bV 2)))) (aCons (bFz (bOp subD (bV 2) (bOp mulD (bV 3) (bV 1)))) (aCons (bFz (bV 3)) (aCons (bFz (bV 1)) (aNil))))))) (sRet (bTupE (aCons (bFz (bV 2)) (aCons (bFz (bOp subD (bV 2) (bOp mulD (bV 3) (bV 1)))) (aNil))))) (sNx))))
    (sRet (bC .non))
def F_first_power : Fx := runB 4 2 B_first_power
theorem fok_first_power (T : Tx K mg) (f : Addr) (fd : FuncData) (F : Fun K "first_power" "first_power" s_first_power f fd) : FnOk P w K mg base CX0 2 f fd ["word", "number"] (spV K F_first_power) := fn_ok (N := N_first_power) (body := B_first_power) F sc_first_power rfl fun cdv A outer s H E hr =>
    (bv_cons (sv_for PassesOwn.never rfl (iv_range2 rfl T.b_range (ev_n 1) (ev_add (ev_fn call_len fnd_len rfl T.b_len PySem.boot_len (av_cons (ev_n 0) av_nil)) ev_int)) (gv_n 2 sc_first_power.nd) (bv_one (sv_for PassesOwn.never rfl (iv_range3 rfl T.b_range (ev_fdiv (ev_n 2) (ev_n 1)) ev_int (ev_neg ev_int)) (gv_n 3 sc_first_power.nd) (bv_one (sv_if (tv_val (ev_call (ok_is_power T) (hr.mono (by decide)) (av_cons (ev_fz (ev_slice (ev_n 0) ov_none (ov_some (ev_n 2)))) (av_cons (ev_fz (ev_sub (ev_n 2) (ev_mul (ev_n 3) (ev_n 1)))) (av_cons (ev_fz (ev_n 3)) (av_cons (ev_fz (ev_n 1)) av_nil)))))) (bv_one (sv_ret (ev_tupE (av_cons (ev_fz (ev_n 2)) (av_cons (ev_fz (ev_sub (ev_n 2) (ev_mul (ev_n 3) (ev_n 1)))) av_nil))))) bv_nil)))))
    (bv_one (sv_ret ev_non)))
theorem ok_first_power (T : Tx K mg) : DefOk P w K mg base "first_power" 2 ["word", "number"] F_first_power := def_of T.d_first_power (fok_first_power T) (fun _ _ _ _ _ _ us hl => match us, hl with | [_, _], _ => rfl)
abbrev s_overlap_place : Stmt := topS 12
abbrev N_overlap_place : List Str := ["word", "end", "size", "start"]
theorem sc_overlap_place : FnScope N_overlap_place ["word"] (defScope s_overlap_place) := ⟨rfl, rfl, rfl, by decide +kernel, rfl, by decide +kernel, by decide +kernel⟩
def B_overlap_place : Sx := sSeq (sFor (iRange2 (bC (.int 3)) (bOp addD (bFn lenD (aCons (bV 0) (aNil))) (bC (.int 1)))) (bName 1) (sFor (iRange3 (bOp fdivD (bOp subD (bV 1) (bC (.int 1))) (bC (.int 2))) (bC (.int 0)) (bUn negD (bC (.int 1)))) (bName 2) (sSeq (sSet 3 (bOp subD (bOp subD (bV 1) (bOp mulD (bC (.int 2)) (bV 2))) (bC (.int 1))))
    (sIf (bT (bOp eqD (bSl (bV 0) (oSome (bV 3)) (oSome (bOp subD (bV 1) (bV 2)))) (bSl (bV 0) (oSome (bOp addD (bV 3) (bV 2))) (oSome (bV 1))))) (sRet (bTupE (aCons (bFz (bV 1)) (aCons (bFz (bV 3)) (aNil))))) (sNx)))))
    (sRet (bC .non))
def F_overlap_place : Fx := runB 4 1 B_overlap_place
theorem fok_overlap_place (T : Tx K mg) (f : Addr) (fd : FuncData) (F : Fun K "overlap_place" "overlap_place" s_overlap_place f fd) : FnOk P w K mg base CX0 1 f fd ["word"] (spV K F_overlap_place) := fn_ok (N := N_overlap_place) (body := B_overlap_place) F sc_overlap_place rfl fun cdv A outer s H E hr =>
    (bv_cons (sv_for PassesOwn.never rfl (iv_range2 rfl T.b_range ev_int (ev_add (ev_fn call_len fnd_len rfl T.b_len PySem.boot_len (av_cons (ev_n 0) av_nil)) ev_int)) (gv_n 1 sc_overlap_place.nd) (bv_one (sv_for PassesOwn.never rfl (iv_range3 rfl T.b_range (ev_fdiv (ev_sub (ev_n 1) ev_int) ev_int) ev_int (ev_neg ev_int)) (gv_n 2 sc_overlap_place.nd) (bv_cons (sv_n 3 sc_overlap_place.nd (ev_sub (ev_sub (ev_n 1) (ev_mul ev_int (ev_n 2))) ev_int))
    (bv_one (sv_if (tv_cmp (op_eqX (hr.units)) opd_eq (nomark _) (ev_slice (ev_n 0) (ov_some (ev_n 3)) (ov_some (ev_sub (ev_n 1) (ev_n 2)))) (ev_slice (ev_n 0) (ov_some (ev_add (ev_n 3) (ev_n 2))) (ov_some (ev_n 1)))) (bv_one (sv_ret (ev_tupE (av_cons (ev_fz (ev_n 1)) (av_cons (ev_fz (ev_n 3)) av_nil))))) bv_nil))))))
    (bv_one (sv_ret ev_non)))
theorem ok_overlap_place (T : Tx K mg) : DefOk P w K mg base "overlap_place" 1 ["word"] F_overlap_place := def_of T.d_overlap_place (fok_overlap_place T) (fun _ _ _ _ _ _ us hl => match us, hl with | [_], _ => rfl)
abbrev s_has_kind : Stmt := topS 14
abbrev N_has_kind : List Str := ["kind", "word"]
theorem sc_has_kind : FnScope N_has_kind ["kind", "word"] (defScope s_has_kind) := ⟨rfl, rfl, rfl, by decide +kernel, rfl, by decide +kernel, by decide +kernel⟩
def B_has_kind : Sx := sSeq (sIf (bT (bOp eqD (bV 0) (bC (.str [111, 118, 101, 114, 108, 97, 112])))) (sRet (bOp isnD (bCall F_overlap_place (aCons (bFz (bV 1)) (aNil))) (bC .non))) (sNx))
    (sRet (bOp isnD (bCall F_first_power (aCons (bFz (bV 1)) (aCons (bFz (bIf (bT (bOp eqD (bV 0) (bC (.str [115, 113, 117, 97, 114, 101])))) (bC (.int 2)) (bC (.int 3)))) (aNil)))) (bC .non)))
def F_has_kind : Fx := runB 2 2 B_has_kind
theorem fok_has_kind (T : Tx K mg) (f : Addr) (fd : FuncData) (F : Fun K "has_kind" "has_kind" s_has_kind f fd) : FnOk P w K mg base CX0 3 f fd ["kind", "word"] (spV K F_has_kind) := fn_ok (N := N_has_kind) (body := B_has_kind) F sc_has_kind rfl fun cdv A outer s H E hr =>
    (bv_cons (sv_if (tv_cmp (op_eqX (hr.units)) opd_eq (nomark _) (ev_n 0) (ev_str (l := [111, 118, 101, 114, 108, 97, 112]) (by decide +kernel))) (bv_one (sv_ret (ev_cmp op_isnX opd_isn (nomark _) (ev_call (ok_overlap_place T) (hr.mono (by decide)) (av_cons (ev_fz (ev_n 1)) av_nil)) ev_non))) bv_nil)
    (bv_one (sv_ret (ev_cmp op_isnX opd_isn (nomark _) (ev_call (ok_first_power T) (hr.mono (by decide)) (av_cons (ev_fz (ev_n 1)) (av_cons (ev_fz (ev_ifE (tv_cmp (op_eqX (hr.units)) opd_eq (nomark _) (ev_n 0) (ev_str (l := [115, 113, 117, 97, 114, 101]) (by decide +kernel))) ev_int ev_int)) av_nil))) ev_non))))
theorem ok_has_kind (T : Tx K mg) : DefOk P w K mg base "has_kind" 3 ["kind", "word"] F_has_kind := def_of T.d_has_kind (fok_has_kind T) (fun _ _ _ _ _ _ us hl => match us, hl with | [_, _], _ => rfl)
abbrev s_ends_with_kind : Stmt := topS 15
abbrev N_ends_with_kind : List Str := ["kind", "word", "size", "number", "part"]
theorem sc_ends_with_kind : FnScope N_ends_with_kind ["kind", "word"] (defScope s_ends_with_kind) := ⟨rfl, rfl, rfl, by decide +kernel, rfl, by decide +kernel, by decide +kernel⟩
def B_ends_with_kind : Sx := sSeq (sIf (bT (bOp eqD (bV 0) (bC (.str [111, 118, 101, 114, 108, 97, 112])))) (sSeq (sFor (iRange2 (bC (.int 1)) (bOp addD (bOp fdivD (bOp subD (bFn lenD (aCons (bV 1) (aNil))) (bC (.int 1))) (bC (.int 2))) (bC (.int 1)))) (bName 2) (sIf (bT (bOp eqD (bSl (bV 1) (oSome (bOp subD (bOp subD (bFn lenD (aCons (bV 1) (aNil))) (bOp mulD (bC (.int 2)) (bV 2))) (bC (.int 1)))) (oSome (bOp subD (bFn lenD (aCons (bV 1) (aNil))) (bV 2)))) (bSl (bV 1) (oSome (bOp subD (bOp subD (bFn lenD (aCons (bV 1) (aNil))) (bV 2)) (bC (.int 1)))) (oNone)))) (sRet (bC (.bl true))) (sNx)))
    (sRet (bC (.bl false)))) (sNx))
    (sSeq (sSet 3 (bFz (bIf (bT (bOp eqD (bV 0) (bC (.str [115, 113, 117, 97, 114, 101])))) (bC (.int 2)) (bC (.int 3)))))
    (sSeq (sFor (iRange2 (bC (.int 1)) (bOp addD (bOp fdivD (bFn lenD (aCons (bV 1) (aNil))) (bV 3)) (bC (.int 1)))) (bName 2) (sSeq (sSet 4 (bSl (bV 1) (oSome (bOp subD (bFn lenD (aCons (bV 1) (aNil))) (bOp mulD (bV 2) (bV 3)))) (oNone)))
    (sIf (bT (bOp eqD (bSl (bV 4) (oSome (bV 2)) (oNone)) (bSl (bV 4) (oNone) (oSome (bUn negD (bV 2)))))) (sRet (bC (.bl true))) (sNx))))
    (sRet (bC (.bl false)))))
def F_ends_with_kind : Fx := runB 5 2 B_ends_with_kind
theorem fok_ends_with_kind (T : Tx K mg) (f : Addr) (fd : FuncData) (F : Fun K "ends_with_kind" "ends_with_kind" s_ends_with_kind f fd) : FnOk P w K mg base CX0 1 f fd ["kind", "word"] (spV K F_ends_with_kind) := fn_ok (N := N_ends_with_kind) (body := B_ends_with_kind) F sc_ends_with_kind rfl fun cdv A outer s H E hr =>
    (bv_cons (sv_if (tv_cmp (op_eqX (hr.units)) opd_eq (nomark _) (ev_n 0) (ev_str (l := [111, 118, 101, 114, 108, 97, 112]) (by decide +kernel))) (bv_cons (sv_for PassesOwn.never rfl (iv_range2 rfl T.b_range ev_int (ev_add (ev_fdiv (ev_sub (ev_fn call_len fnd_len rfl T.b_len PySem.boot_len (av_cons (ev_n 1) av_nil)) ev_int) ev_int) ev_int)) (gv_n 2 sc_ends_with_kind.nd) (bv_one (sv_if (tv_cmp (op_eqX (hr.units)) opd_eq (nomark _) (ev_slice (ev_n 1) (ov_some (ev_sub (ev_sub (ev_fn call_len fnd_len rfl T.b_len PySem.boot_len (av_cons (ev_n 1) av_nil)) (ev_mul ev_int (ev_n 2))) ev_int)) (ov_some (ev_sub (ev_fn call_len fnd_len rfl T.b_len PySem.boot_len (av_cons (ev_n 1) av_nil)) (ev_n 2)))) (ev_slice (ev_n 1) (ov_some (ev_sub (ev_sub (ev_fn call_len fnd_len rfl T.b_len PySem.boot_len (av_cons (ev_n 1) av_nil)) (ev_n 2)) ev_int)) ov_none)) (bv_one (sv_ret ev_bl)) bv_nil)))
    (bv_one (sv_ret ev_bl))) bv_nil)
    (bv_cons (sv_n 3 sc_ends_with_kind.nd (ev_fz (ev_ifE (tv_cmp (op_eqX (hr.units)) opd_eq (nomark _) (ev_n 0) (ev_str (l := [115, 113, 117, 97, 114, 101]) (by decide +kernel))) ev_int ev_int)))
    (bv_cons (sv_for PassesOwn.never rfl (iv_range2 rfl T.b_range ev_int (ev_add (ev_fdiv (ev_fn call_len fnd_len rfl T.b_len PySem.boot_len (av_cons (ev_n 1) av_nil)) (ev_n 3)) ev_int)) (gv_n 2 sc_ends_with_kind.nd) (bv_cons (sv_n 4 sc_ends_with_kind.nd (ev_slice (ev_n 1) (ov_some (ev_sub (ev_fn call_len fnd_len rfl T.b_len PySem.boot_len (av_cons (ev_n 1) av_nil)) (ev_mul (ev_n 2) (ev_n 3)))) ov_none))
    (bv_one (sv_if (tv_cmp (op_eqX (hr.units)) opd_eq (nomark _) (ev_slice (ev_n 4) (ov_some (ev_n 2)) ov_none) (ev_slice (ev_n 4) ov_none (ov_some (ev_neg (ev_n 2))))) (bv_one (sv_ret ev_bl)) bv_nil))))
    (bv_one (sv_ret ev_bl)))))
theorem ok_ends_with_kind (T : Tx K mg) : DefOk P w K mg base "ends_with_kind" 1 ["kind", "word"] F_ends_with_kind := def_of T.d_ends_with_kind (fok_ends_with_kind T) (fun _ _ _ _ _ _ us hl => match us, hl with | [_, _], _ => rfl)
abbrev s_longer_words : Stmt := topS 16
abbrev N_longer_words : List Str := ["kind", "words", "letters", "longer", "word", "letter"]
theorem sc_longer_words : FnScope N_longer_words ["kind", "words", "letters"] (defScope s_longer_words) := ⟨rfl, rfl, rfl, by decide +kernel, rfl, by decide +kernel, by decide +kernel⟩
def B_longer_words : Sx := sSeq (sSet 3 (bComp2 (iLst (bV 1)) [4, 5] [5] (bName 4) (bYes) (iTxt (bSl (bC (.str [97, 98, 99, 100])) (oNone) (oSome (bV 2)))) (bName 5) (bYes) (bOp addD (bV 4) (bV 5))))
    (sRet (bComp (iLst (bV 3)) [4] (bName 4) (bNot (bT (bCall F_ends_with_kind (aCons (bFz (bV 0)) (aCons (bFz (bV 4)) (aNil)))))) (bV 4)))
def F_longer_words : Fx := runB 6 3 B_longer_words
theorem fok_longer_words (T : Tx K mg) (f : Addr) (fd : FuncData) (F : Fun K "longer_words" "longer_words" s_longer_words f fd) : FnOk P w K mg base CX0 2 f fd ["kind", "words", "letters"] (spV K F_longer_words) := fn_ok (N := N_longer_words) (body := B_longer_words) F sc_longer_words rfl fun cdv A outer s H E hr =>
    (bv_cons (sv_setComp2 (own := [("word", 4), ("letter", 5)]) (vs1 := [5]) (i := 3) rfl sc_longer_words.nd rfl rfl (sw_true rfl rfl rfl (by decide +kernel)) (blkOk_by (N := N_longer_words) (sc := defScope s_longer_words) (by decide +kernel)) (iv_list (ev_n 1)) (fun _ _ _ _ _ => (gv_n 4 sc_longer_words.nd)) (fun _ _ _ _ _ => tsv_nil) (fun _ _ _ _ _ => (iv_txt (ev_slice (ev_gstr T.c_LETTERS rfl) ov_none (ov_some (ev_n 2))))) (fun _ _ _ _ _ => (gv_n 5 sc_longer_words.nd)) (fun _ _ _ _ _ => tsv_nil) (fun _ _ _ _ _ => (ev_add (ev_n 4) (ev_n 5))))
    (bv_one (sv_ret (ev_comp (own := [("word", 4)]) rfl sc_longer_words.nd (blkOk_by (N := N_longer_words) (sc := defScope s_longer_words) (by decide +kernel)) (iv_list (ev_n 3)) (fun _ _ _ _ _ => (gv_n 4 sc_longer_words.nd)) (fun _ _ _ _ _ => tsv_one (tv_not (tv_val (ev_call (ok_ends_with_kind T) (hr.mono (by decide)) (av_cons (ev_fz (ev_n 0)) (av_cons (ev_fz (ev_n 4)) av_nil)))))) (fun _ _ _ _ _ => (ev_n 4))))))
theorem ok_longer_words (T : Tx K mg) : DefOk P w K mg base "longer_words" 2 ["kind", "words", "letters"] F_longer_words := def_of T.d_longer_words (fok_longer_words T) (fun _ _ _ _ _ _ us hl => match us, hl with | [_, _, _], _ => rfl)
abbrev s_image_of : Stmt := topS 19
abbrev N_image_of : List Str := ["images", "word", "letter"]
theorem sc_image_of : FnScope N_image_of ["images", "word"] (defScope s_image_of) := ⟨rfl, rfl, rfl, by decide +kernel, rfl, by decide +kernel, by decide +kernel⟩
def B_image_of : Sx := sRet (bMt joinD (bC (.str [])) (aCons (bComp (iTxt (bV 1)) [2] (bName 2) (bYes) (bOp ixD (bV 0) (bMt sindexD (bC (.str [97, 98, 99, 100])) (aCons (bV 2) (aNil))))) (aNil)))
def F_image_of : Fx := runB 3 2 B_image_of
theorem fok_image_of (T : Tx K mg) (f : Addr) (fd : FuncData) (F : Fun K "image_of" "image_of" s_image_of f fd) : FnOk P w K mg base CX0 1 f fd ["images", "word"] (spV K F_image_of) := fn_ok (N := N_image_of) (body := B_image_of) F sc_image_of rfl fun cdv A outer s H E hr =>
    (bv_one (sv_ret (ev_join (ev_str (l := []) (by decide +kernel)) (av_cons (ev_comp (own := [("letter", 2)]) rfl sc_image_of.nd (blkOk_by (N := N_image_of) (sc := defScope s_image_of) (by decide +kernel)) (iv_txt (ev_n 1)) (fun _ _ _ _ _ => (gv_n 2 sc_image_of.nd)) (fun _ _ _ _ _ => tsv_nil) (fun _ _ _ _ _ => (ev_item (fun _ _ => rfl) (ev_n 0) (ev_sindex (ev_gstr T.c_LETTERS rfl) (av_cons (ev_n 2) av_nil))))) av_nil))))
theorem ok_image_of (T : Tx K mg) : DefOk P w K mg base "image_of" 1 ["images", "word"] F_image_of := def_of T.d_image_of (fok_image_of T) (fun _ _ _ _ _ _ us hl => match us, hl with | [_, _], _ => rfl)
abbrev s_Morphism : Stmt := inClass (topS 20) 0
abbrev N_Morphism : List Str := ["self", "images", "word"]
theorem sc_Morphism : FnScope N_Morphism ["self", "images"] (defScope s_Morphism) := ⟨rfl, rfl, rfl, by decide +kernel, rfl, by decide +kernel, by decide +kernel⟩
def B_Morphism (o : Addr) : Ib := iSt (sIf (bOr (bNot (bT (bFn (isiD "tuple") (aCons (bV 1) (aCons (bC (.ptr (.ty "tuple"))) aNil))))) (bNot (bT (bChain leD leD (bC (.int 1)) (bFn lenD (aCons (bV 1) (aNil))) (bC (.int 4)))))) (sNever) (sNx))
    (iSt (sIf (bNot (bT (bFn allD (aCons (bComp (iTpl (bV 1)) [2] (bName 2) (bYes) (bCall F_is_letters (aApp (aCons (bFz (bV 2)) (aCons (bFz (bFn lenD (aCons (bV 1) (aNil)))) (aCons (bFz (bC (.int 12))) (aNil)))) []))) (aNil))))) (sNever) (sNx))
    (iFld o "images" (bV 1) (iFld o "letters" (bFn lenD (aCons (bV 1) (aNil))) (iNil))))
noncomputable def g_Morphism : List D → Option (List (Str × D)) := gIn ["images", "letters"] (gI 3 1 B_Morphism)
theorem mk_Morphism (T : Tx K mg) : MkOk P w K mg base "Morphism" 2 1 g_Morphism := mk_of (ps := ["self", "images"]) T.m_Morphism (fun C f fd hC hn F => init_ok (N := N_Morphism) (B := B_Morphism) (by decide) F sc_Morphism (fun o ds fs _ e => gI_run o (gIn_run e).1) fun o dx cdv A outer s H E hr =>
    (ib_st (sv_if (tv_w (wv_or (tv_not (tv_val (ev_fn call_isi fnd_isi rfl T.b_isinstance PyProof.Rows.boot_isinstance (av_cons (ev_n 1) (av_cons (ev_cls rfl T.b_tuple (by decide +kernel)) av_nil))))) (wv_one_or (tv_not (tv_chain op_le op_le opd_ib opd_ib ev_int (ev_fn call_len fnd_len rfl T.b_len PySem.boot_len (av_cons (ev_n 1) av_nil)) (ev_gint T.c_BASE rfl)))))) (bv_one sv_never) bv_nil)
    (ib_st (sv_if (tv_not (tv_val (ev_fn (cr_all rfl) fnd_all rfl T.b_all PyProof.Rows.boot_all (av_cons (ev_comp (own := [("word", 2)]) rfl sc_Morphism.nd (blkOk_by (N := N_Morphism) (sc := defScope s_Morphism) (by decide +kernel)) (iv_tup (ev_n 1)) (fun _ _ _ _ _ => (gv_n 2 sc_Morphism.nd)) (fun _ _ _ _ _ => tsv_nil) (fun _ _ _ _ _ => (ev_callD (ds := []) (ok_is_letters T) 2 (by decide) (fun _ => rfl) (hr.mono (by decide)) (av_cons (ev_fz (ev_n 2)) (av_cons (ev_fz (ev_fn call_len fnd_len rfl T.b_len PySem.boot_len (av_cons (ev_n 1) av_nil))) (av_cons (ev_fz (ev_gint T.c_MOST_IMAGE rfl)) av_nil)))))) av_nil)))) (bv_one sv_never) bv_nil)
    (ib_fld hC (hn _ (by decide +kernel)) (ev_n 1) (pv 0) (ib_fld hC (hn _ (by decide +kernel)) (ev_fn call_len fnd_len rfl T.b_len PySem.boot_len (av_cons (ev_n 1) av_nil)) (pv 0) ib_nil))))) (fun _ _ _ _ _ _ us hl => match us, hl with | [_, _], _ => rfl)
abbrev s_breaking : Stmt := topS 23
abbrev N_breaking : List Str := ["kind", "images", "most", "row", "_", "word"]
theorem sc_breaking : FnScope N_breaking ["kind", "images", "most"] (defScope s_breaking) := ⟨rfl, rfl, rfl, by decide +kernel, rfl, by decide +kernel, by decide +kernel⟩
def B_breaking : Sx := sSeq (sSet 3 (bLstE (aCons (bFz (bC (.str []))) (aNil))))
    (sSeq (sFor (iRange1 (bV 2)) (bName 4) (sSeq (sSet 3 (bCall F_longer_words (aCons (bFz (bV 0)) (aCons (bFz (bV 3)) (aCons (bFz (bFn lenD (aCons (bV 1) (aNil)))) (aNil))))))
    (sFor (iLst (bV 3)) (bName 5) (sIf (bT (bCall F_has_kind (aCons (bFz (bV 0)) (aCons (bFz (bCall F_image_of (aCons (bFz (bV 1)) (aCons (bFz (bV 5)) (aNil))))) (aNil))))) (sRet (bV 5)) (sNx)))))
    (sRet (bC .non)))
def F_breaking : Fx := runB 6 3 B_breaking
theorem fok_breaking (T : Tx K mg) (f : Addr) (fd : FuncData) (F : Fun K "breaking" "breaking" s_breaking f fd) : FnOk P w K mg base CX0 4 f fd ["kind", "images", "most"] (spV K F_breaking) := fn_ok (N := N_breaking) (body := B_breaking) F sc_breaking rfl fun cdv A outer s H E hr =>
    (bv_cons (sv_n 3 sc_breaking.nd (ev_lstE (av_cons (ev_fz (ev_str (l := []) (by decide +kernel))) av_nil)))
    (bv_cons (sv_for PassesOwn.never rfl (iv_range1 rfl T.b_range (ev_n 2)) (gv_n 4 sc_breaking.nd) (bv_cons (sv_n 3 sc_breaking.nd (ev_call (ok_longer_words T) (hr.mono (by decide)) (av_cons (ev_fz (ev_n 0)) (av_cons (ev_fz (ev_n 3)) (av_cons (ev_fz (ev_fn call_len fnd_len rfl T.b_len PySem.boot_len (av_cons (ev_n 1) av_nil))) av_nil)))))
    (bv_one (sv_for PassesOwn.never rfl (iv_list (ev_n 3)) (gv_n 5 sc_breaking.nd) (bv_one (sv_if (tv_val (ev_call (ok_has_kind T) (hr.mono (by decide)) (av_cons (ev_fz (ev_n 0)) (av_cons (ev_fz (ev_call (ok_image_of T) (hr.mono (by decide)) (av_cons (ev_fz (ev_n 1)) (av_cons (ev_fz (ev_n 5)) av_nil)))) av_nil)))) (bv_one (sv_ret (ev_n 5))) bv_nil))))))
    (bv_one (sv_ret ev_non))))
theorem ok_breaking (T : Tx K mg) : DefOk P w K mg base "breaking" 4 ["kind", "images", "most"] F_breaking := def_of T.d_breaking (fok_breaking T) (fun _ _ _ _ _ _ us hl => match us, hl with | [_, _, _], _ => rfl)
abbrev s_bound_for : Stmt := topS 24
abbrev N_bound_for : List Str := ["images", "least", "most", "word"]
theorem sc_bound_for : FnScope N_bound_for ["images"] (defScope s_bound_for) := ⟨rfl, rfl, rfl, by decide +kernel, rfl, by decide +kernel, by decide +kernel⟩
def B_bound_for : Sx := sSeq (sParN [1, 2] (aoCons (bFn minD (aCons (bComp (iTpl (bV 0)) [3] (bName 3) (bYes) (bFn lenD (aCons (bV 3) (aNil)))) (aNil))) (aoCons (bFn maxD (aCons (bComp (iTpl (bV 0)) [3] (bName 3) (bYes) (bFn lenD (aCons (bV 3) (aNil)))) (aNil))) (aNil))))
    (sSeq (sIf (bOr (bT (bOp eqD (bV 1) (bC (.int 0)))) (bT (bOp leD (bV 2) (bC (.int 3))))) (sRet (bC (.int 3))) (sNx))
    (sRet (bFn maxD (aCons (bC (.int 3)) (aCons (bOp addD (bC (.int 1)) (bOp fdivD (bOp subD (bOp addD (bOp subD (bV 2) (bC (.int 3))) (bV 1)) (bC (.int 1))) (bV 1))) (aNil))))))
def F_bound_for : Fx := runB 4 1 B_bound_for
theorem fok_bound_for (T : Tx K mg) (f : Addr) (fd : FuncData) (F : Fun K "bound_for" "bound_for" s_bound_for f fd) : FnOk P w K mg base CX0 1 f fd ["images"] (spV K F_bound_for) := fn_ok (N := N_bound_for) (body := B_bound_for) F sc_bound_for rfl fun cdv A outer s H E hr =>
    (bv_cons (sv_par2 (fs := _) (i := 1) (j := 2) rfl sc_bound_for.nd rfl rfl (by decide) rfl rfl (ao_cons (ev_fn (CallR_or (call_min2 rfl) (cr_min rfl)) fnd_min rfl T.b_min PyProof.Rows.boot_min (av_cons (ev_comp (own := [("word", 3)]) rfl sc_bound_for.nd (blkOk_by (N := N_bound_for) (sc := defScope s_bound_for) (by decide +kernel)) (iv_tup (ev_n 0)) (fun _ _ _ _ _ => (gv_n 3 sc_bound_for.nd)) (fun _ _ _ _ _ => tsv_nil) (fun _ _ _ _ _ => (ev_fn call_len fnd_len rfl T.b_len PySem.boot_len (av_cons (ev_n 3) av_nil)))) av_nil)) (ao_cons (ev_fn (CallR_or (call_max2 rfl) (cr_max rfl)) fnd_max rfl T.b_max PyProof.Rows.boot_max (av_cons (ev_comp (own := [("word", 3)]) rfl sc_bound_for.nd (blkOk_by (N := N_bound_for) (sc := defScope s_bound_for) (by decide +kernel)) (iv_tup (ev_n 0)) (fun _ _ _ _ _ => (gv_n 3 sc_bound_for.nd)) (fun _ _ _ _ _ => tsv_nil) (fun _ _ _ _ _ => (ev_fn call_len fnd_len rfl T.b_len PySem.boot_len (av_cons (ev_n 3) av_nil)))) av_nil)) ao_nil)) rfl)
    (bv_cons (sv_if (tv_w (wv_or (tv_cmp (op_eqX (hr.units)) opd_eq (nomark _) (ev_n 1) ev_int) (wv_one_or (tv_cmp op_le opd_ib (nomark _) (ev_n 2) (ev_gint T.c_MOST_SQUARE rfl))))) (bv_one (sv_ret (ev_gint T.c_MOST_SQUARE rfl))) bv_nil)
    (bv_one (sv_ret (ev_fn (CallR_or (call_max2 rfl) (cr_max rfl)) fnd_max rfl T.b_max PyProof.Rows.boot_max (av_cons (ev_gint T.c_MOST_SQUARE rfl) (av_cons (ev_add ev_int (ev_fdiv (ev_sub (ev_add (ev_sub (ev_n 2) (ev_gint T.c_MOST_SQUARE rfl)) (ev_n 1)) ev_int) (ev_n 1))) av_nil)))))))
theorem ok_bound_for (T : Tx K mg) : DefOk P w K mg base "bound_for" 1 ["images"] F_bound_for := def_of T.d_bound_for (fok_bound_for T) (fun _ _ _ _ _ _ us hl => match us, hl with | [_], _ => rfl)
abbrev s_square_break : Stmt := topS 25
abbrev N_square_break : List Str := ["morphism"]
theorem sc_square_break : FnScope N_square_break ["morphism"] (defScope s_square_break) := ⟨rfl, rfl, rfl, by decide +kernel, rfl, by decide +kernel, by decide +kernel⟩
def B_square_break : Sx := sRet (bCall F_breaking (aCons (bFz (bC (.str [115, 113, 117, 97, 114, 101]))) (aCons (bFz (bFld "images" (bV 0))) (aCons (bFz (bCall F_bound_for (aCons (bFz (bFld "images" (bV 0))) (aNil)))) (aNil)))))
def F_square_break : Fx := runB 1 1 B_square_break
theorem fok_square_break (T : Tx K mg) (f : Addr) (fd : FuncData) (F : Fun K "square_break" "square_break" s_square_break f fd) : FnOk P w K mg base CX0 5 f fd ["morphism"] (spV K F_square_break) := fn_ok (N := N_square_break) (body := B_square_break) F sc_square_break rfl fun cdv A outer s H E hr =>
    (bv_one (sv_ret (ev_call (ok_breaking T) (hr.mono (by decide)) (av_cons (ev_fz (ev_str (l := [115, 113, 117, 97, 114, 101]) (by decide +kernel))) (av_cons (ev_fz (ev_fld (ev_n 0))) (av_cons (ev_fz (ev_call (ok_bound_for T) (hr.mono (by decide)) (av_cons (ev_fz (ev_fld (ev_n 0))) av_nil))) av_nil))))))
theorem ok_square_break (T : Tx K mg) : DefOk P w K mg base "square_break" 5 ["morphism"] F_square_break := def_of T.d_square_break (fok_square_break T) (fun _ _ _ _ _ _ us hl => match us, hl with | [_], _ => rfl)
theorem okk_square_break (T : Tx K mg) : DefKw P w K mg base "square_break" 5 ["morphism"] 0 F_square_break := def_kw T.d_square_break (fok_square_break T) (fun _ _ _ _ _ _ us ws h1 h2 => match us, h1, ws, h2 with | [], _, [_], _ => rfl)
abbrev s__law_cell : Stmt := topS 27
abbrev N__law_cell : List Str := ["script", "k"]
theorem sc__law_cell : FnScope N__law_cell ["script", "k"] (defScope s__law_cell) := ⟨rfl, rfl, rfl, by decide +kernel, rfl, by decide +kernel, by decide +kernel⟩
def B__law_cell : Sx := sRet (bIf (bT (bOp ltD (bV 1) (bFn lenD (aCons (bV 0) (aNil))))) (bOp ixD (bV 0) (bV 1)) (bOp addD (bOp mulD (bC (.int 7477)) (bV 1)) (bOp modD (bFn intD (aCons (bFn sumD (aCons (bSl (bV 0) (oNone) (oSome (bC (.int 1)))) (aNil))) (aNil))) (bC (.int 1000003)))))
def F__law_cell : Fx := runB 2 2 B__law_cell
theorem fok__law_cell (T : Tx K mg) (f : Addr) (fd : FuncData) (F : Fun K "_law_cell" "_law_cell" s__law_cell f fd) : FnOk P w K mg base CX0 1 f fd ["script", "k"] (spV K F__law_cell) := fn_ok (N := N__law_cell) (body := B__law_cell) F sc__law_cell rfl fun cdv A outer s H E hr =>
    (bv_one (sv_ret (ev_ifE (tv_cmp op_lt opd_ib (nomark _) (ev_n 1) (ev_fn call_len fnd_len rfl T.b_len PySem.boot_len (av_cons (ev_n 0) av_nil))) (ev_item (fun _ _ => rfl) (ev_n 0) (ev_n 1)) (ev_add (ev_mul ev_int (ev_n 1)) (ev_mod (ev_ty call_int1 fnd_int rfl T.b_int PyProof.Rows.boot_int (av_cons (ev_fn (cr_sum rfl) fnd_sum rfl T.b_sum PyProof.Rows.boot_sum (av_cons (ev_slice (ev_n 0) ov_none (ov_some ev_int)) av_nil)) av_nil)) ev_int)))))
theorem ok__law_cell (T : Tx K mg) : DefOk P w K mg base "_law_cell" 1 ["script", "k"] F__law_cell := def_of T.d__law_cell (fok__law_cell T) (fun _ _ _ _ _ _ us hl => match us, hl with | [_, _], _ => rfl)
abbrev s__law_box : Stmt := topS 28
abbrev N__law_box : List Str := ["great"]
theorem sc__law_box : FnScope N__law_box ["great"] (defScope s__law_box) := ⟨rfl, rfl, rfl, by decide +kernel, rfl, by decide +kernel, by decide +kernel⟩
def B__law_box : Sx := sRet (bLstE (aCons (bFz (bFn absD (aCons (bV 0) (aNil)))) (aCons (bFz (bOp geD (bFn absD (aCons (bV 0) (aNil))) (bOp powD (bC (.int 10)) (bC (.int 18))))) (aCons (bFz (bOp modD (bFn intD (aCons (bFn absD (aCons (bV 0) (aNil))) (aNil))) (bC (.int 2147483629)))) (aCons (bFz (bC (.int 0))) (aNil))))))
def F__law_box : Fx := runB 1 1 B__law_box
theorem fok__law_box (T : Tx K mg) (f : Addr) (fd : FuncData) (F : Fun K "_law_box" "_law_box" s__law_box f fd) : FnOk P w K mg base CX0 1 f fd ["great"] (spV K F__law_box) := fn_ok (N := N__law_box) (body := B__law_box) F sc__law_box rfl fun cdv A outer s H E hr =>
    (bv_one (sv_ret (ev_lstE (av_cons (ev_fz (ev_fn call_abs fnd_abs rfl T.b_abs PyProof.Rows.boot_abs (av_cons (ev_n 0) av_nil))) (av_cons (ev_fz (ev_cmp op_ge opd_ib (nomark _) (ev_fn call_abs fnd_abs rfl T.b_abs PyProof.Rows.boot_abs (av_cons (ev_n 0) av_nil)) (ev_pow ev_int ev_int))) (av_cons (ev_fz (ev_mod (ev_ty call_int1 fnd_int rfl T.b_int PyProof.Rows.boot_int (av_cons (ev_fn call_abs fnd_abs rfl T.b_abs PyProof.Rows.boot_abs (av_cons (ev_n 0) av_nil)) av_nil)) ev_int)) (av_cons (ev_fz ev_int) av_nil)))))))
theorem ok__law_box (T : Tx K mg) : DefOk P w K mg base "_law_box" 1 ["great"] F__law_box := def_of T.d__law_box (fok__law_box T) (fun _ _ _ _ _ _ us hl => match us, hl with | [_], _ => rfl)
abbrev s__law_take : Stmt := topS 29
abbrev N__law_take : List Str := ["box", "many", "digit", "mixed"]
theorem sc__law_take : FnScope N__law_take ["box", "many"] (defScope s__law_take) := ⟨rfl, rfl, rfl, by decide +kernel, rfl, by decide +kernel, by decide +kernel⟩
def B__law_take : Sx := sSeq (sIf (bAnd (bT (bOp ixD (bV 0) (bC (.int 1)))) (bT (bOp gtD (bOp ixD (bV 0) (bC (.int 0))) (bC (.int 0))))) (sSeq (sSet 2 (bOp modD (bFn intD (aCons (bOp ixD (bV 0) (bC (.int 0))) (aNil))) (bV 1)))
    (sSeq (sPut 0 (bC (.int 0)) (bOp fdivD (bOp ixD (bV 0) (bC (.int 0))) (bV 1)))
    (sRet (bV 2)))) (sNx))
    (sSeq (sPut 0 (bC (.int 3)) (bOp addD (bOp ixD (bV 0) (bC (.int 3))) (bC (.int 1))))
    (sSeq (sSet 3 (bOp modD (bFn intD (aCons (bOp powD (bOp addD (bOp addD (bOp ixD (bV 0) (bC (.int 2))) (bOp mulD (bC (.int 15485867)) (bOp ixD (bV 0) (bC (.int 3))))) (bC (.int 179424691))) (bC (.int 5))) (aNil))) (bC (.int 2147483647))))
    (sRet (bOp modD (bFn intD (aCons (bOp fdivD (bOp modD (bFn intD (aCons (bOp powD (bOp addD (bOp mulD (bV 3) (bC (.int 48271))) (bOp mulD (bC (.int 104743)) (bOp ixD (bV 0) (bC (.int 3))))) (bC (.int 3))) (aNil))) (bC (.int 2147483587))) (bC (.int 64))) (aNil))) (bV 1)))))
def F__law_take : Fx := runB 4 2 B__law_take
theorem fok__law_take (T : Tx K mg) (f : Addr) (fd : FuncData) (F : Fun K "_law_take" "_law_take" s__law_take f fd) : FnOk P w K mg base CX0 1 f fd ["box", "many"] (spV K F__law_take) := fn_ok (N := N__law_take) (body := B__law_take) F sc__law_take rfl fun cdv A outer s H E hr =>
    (bv_cons (sv_if (tv_w (wv_and (tv_val (ev_item (fun _ _ => rfl) (ev_n 0) ev_int)) (wv_one_and (tv_cmp op_gt opd_ib (nomark _) (ev_item (fun _ _ => rfl) (ev_n 0) ev_int) ev_int)))) (bv_cons (sv_n 2 sc__law_take.nd (ev_mod (ev_ty call_int1 fnd_int rfl T.b_int PyProof.Rows.boot_int (av_cons (ev_item (fun _ _ => rfl) (ev_n 0) ev_int) av_nil)) (ev_n 1)))
    (bv_cons (sv_put (pv 0) ev_int (ev_fdiv (ev_item (fun _ _ => rfl) (ev_n 0) ev_int) (ev_n 1)))
    (bv_one (sv_ret (ev_n 2))))) bv_nil)
    (bv_cons (sv_put (pv 0) ev_int (ev_add (ev_item (fun _ _ => rfl) (ev_n 0) ev_int) ev_int))
    (bv_cons (sv_n 3 sc__law_take.nd (ev_mod (ev_ty call_int1 fnd_int rfl T.b_int PyProof.Rows.boot_int (av_cons (ev_pow (ev_add (ev_add (ev_item (fun _ _ => rfl) (ev_n 0) ev_int) (ev_mul ev_int (ev_item (fun _ _ => rfl) (ev_n 0) ev_int))) ev_int) ev_int) av_nil)) ev_int))
    (bv_one (sv_ret (ev_mod (ev_ty call_int1 fnd_int rfl T.b_int PyProof.Rows.boot_int (av_cons (ev_fdiv (ev_mod (ev_ty call_int1 fnd_int rfl T.b_int PyProof.Rows.boot_int (av_cons (ev_pow (ev_add (ev_mul (ev_n 3) ev_int) (ev_mul ev_int (ev_item (fun _ _ => rfl) (ev_n 0) ev_int))) ev_int) av_nil)) ev_int) ev_int) av_nil)) (ev_n 1)))))))
theorem ok__law_take (T : Tx K mg) : DefOk P w K mg base "_law_take" 1 ["box", "many"] F__law_take := def_of T.d__law_take (fok__law_take T) (fun _ _ _ _ _ _ us hl => match us, hl with | [_, _], _ => rfl)
abbrev s__law_same : Stmt := topS 30
abbrev N__law_same : List Str := ["told", "due", "k"]
theorem sc__law_same : FnScope N__law_same ["told", "due"] (defScope s__law_same) := ⟨rfl, rfl, rfl, by decide +kernel, rfl, by decide +kernel, by decide +kernel⟩
def B__law_same (rec : Fx) : Sx := sSeq (sIf (bOr (bT (bOp isD (bV 1) (bC .non))) (bT (bFn (isiD "bool") (aCons (bV 1) (aCons (bC (.ptr (.ty "bool"))) aNil))))) (sRet (bIf (bT (bOp isD (bV 1) (bC .non))) (bOp isD (bV 0) (bC .non)) (bAndV (bFn (isiD "bool") (aCons (bV 0) (aCons (bC (.ptr (.ty "bool"))) aNil))) (bOp eqD (bOp isD (bV 0) (bC (.bl true))) (bOp isD (bV 1) (bC (.bl true))))))) (sNx))
    (sSeq (sIf (bT (bFn (isiD "int") (aCons (bV 1) (aCons (bC (.ptr (.ty "int"))) aNil)))) (sRet (bAndV (bFn (isiD "int") (aCons (bV 0) (aCons (bC (.ptr (.ty "int"))) aNil))) (bAndV (bNotV (bFn (isiD "bool") (aCons (bV 0) (aCons (bC (.ptr (.ty "bool"))) aNil)))) (bOp eqD (bOp subD (bFn intD (aCons (bV 0) (aNil))) (bV 1)) (bC (.int 0)))))) (sNx))
    (sSeq (sIf (bT (bFn (isiD "str") (aCons (bV 1) (aCons (bC (.ptr (.ty "str"))) aNil)))) (sRet (bAndV (bFn (isiD "str") (aCons (bV 0) (aCons (bC (.ptr (.ty "str"))) aNil))) (bAndV (bOp eqD (bFn lenD (aCons (bV 0) (aNil))) (bFn lenD (aCons (bV 1) (aNil)))) (bOp eqD (bComp (iRange1 (bFn lenD (aCons (bV 1) (aNil)))) [2] (bName 2) (bT (bOp neD (bSl (bV 0) (oSome (bV 2)) (oSome (bOp addD (bV 2) (bC (.int 1))))) (bOp ixD (bV 1) (bV 2)))) (bV 2)) (bLstE (aNil)))))) (sNx))
    (sSeq (sIf (bT (bFn (isiD "dict") (aCons (bV 1) (aCons (bC (.ptr (.ty "dict"))) aNil)))) (sNever) (sNx))
    (sSeq (sIf (bOr (bT (bOp neD (bFn (isiD "list") (aCons (bV 0) (aCons (bC (.ptr (.ty "list"))) aNil))) (bFn (isiD "list") (aCons (bV 1) (aCons (bC (.ptr (.ty "list"))) aNil))))) (bT (bOp neD (bFn (isiD "tuple") (aCons (bV 0) (aCons (bC (.ptr (.ty "tuple"))) aNil))) (bFn (isiD "tuple") (aCons (bV 1) (aCons (bC (.ptr (.ty "tuple"))) aNil)))))) (sRet (bC (.bl false))) (sNx))
    (sSeq (sIf (bOr (bNot (bT (bIsi2 "list" "tuple" (bV 0)))) (bT (bOp neD (bFn lenD (aCons (bV 0) (aNil))) (bFn lenD (aCons (bV 1) (aNil)))))) (sRet (bC (.bl false))) (sNx))
    (sRet (bOp eqD (bComp (iRange1 (bFn lenD (aCons (bV 1) (aNil)))) [2] (bName 2) (bNot (bT (bCall rec (aCons (bFz (bOp ixD (bV 0) (bV 2))) (aCons (bFz (bOp ixD (bV 1) (bV 2))) (aNil)))))) (bV 2)) (bLstE (aNil)))))))))
def F__law_same : Nat → Fx
  | 0 => F_none
  | n + 1 => runB 3 2 (B__law_same (F__law_same n))
theorem ok__law_same (T : Tx K mg) : ∀ n : Nat, DefOk P w K mg base "_law_same" (1 + n) ["told", "due"] (F__law_same n)
  | 0 => def_of T.d__law_same (fun f fd F => by unfold F__law_same; exact fn_none F sc__law_same) (fun _ _ _ _ _ _ us hl => match us, hl with | [_, _], _ => rfl)
  | n + 1 => def_of T.d__law_same (fun f fd F => fn_ok (N := N__law_same) (body := B__law_same (F__law_same n)) F sc__law_same rfl fun cdv A outer s H E hr =>
    (bv_cons (sv_if (tv_w (wv_or (tv_cmp op_isX opd_is (nomark _) (ev_n 1) ev_non) (wv_one_or (tv_val (ev_fn call_isi fnd_isi rfl T.b_isinstance PyProof.Rows.boot_isinstance (av_cons (ev_n 1) (av_cons (ev_cls rfl T.b_bool (by decide +kernel)) av_nil))))))) (bv_one (sv_ret (ev_ifE (tv_cmp op_isX opd_is (nomark _) (ev_n 1) ev_non) (ev_cmp op_isX opd_is (nomark _) (ev_n 0) ev_non) (ev_and (ev_fn call_isi fnd_isi rfl T.b_isinstance PyProof.Rows.boot_isinstance (av_cons (ev_n 0) (av_cons (ev_cls rfl T.b_bool (by decide +kernel)) av_nil))) (ev_one (ev_cmp (op_eqX (hr.units)) opd_eq (nomark _) (ev_cmp op_isX opd_is (nomark _) (ev_n 0) ev_bl) (ev_cmp op_isX opd_is (nomark _) (ev_n 1) ev_bl))))))) bv_nil)
    (bv_cons (sv_if (tv_val (ev_fn call_isi fnd_isi rfl T.b_isinstance PyProof.Rows.boot_isinstance (av_cons (ev_n 1) (av_cons (ev_cls rfl T.b_int (by decide +kernel)) av_nil)))) (bv_one (sv_ret (ev_and (ev_fn call_isi fnd_isi rfl T.b_isinstance PyProof.Rows.boot_isinstance (av_cons (ev_n 0) (av_cons (ev_cls rfl T.b_int (by decide +kernel)) av_nil))) (ev_and (ev_not (ev_fn call_isi fnd_isi rfl T.b_isinstance PyProof.Rows.boot_isinstance (av_cons (ev_n 0) (av_cons (ev_cls rfl T.b_bool (by decide +kernel)) av_nil)))) (ev_one (ev_cmp (op_eqX (hr.units)) opd_eq (nomark _) (ev_sub (ev_ty call_int1 fnd_int rfl T.b_int PyProof.Rows.boot_int (av_cons (ev_n 0) av_nil)) (ev_n 1)) ev_int)))))) bv_nil)
    (bv_cons (sv_if (tv_val (ev_fn call_isi fnd_isi rfl T.b_isinstance PyProof.Rows.boot_isinstance (av_cons (ev_n 1) (av_cons (ev_cls rfl T.b_str (by decide +kernel)) av_nil)))) (bv_one (sv_ret (ev_and (ev_fn call_isi fnd_isi rfl T.b_isinstance PyProof.Rows.boot_isinstance (av_cons (ev_n 0) (av_cons (ev_cls rfl T.b_str (by decide +kernel)) av_nil))) (ev_and (ev_cmp (op_eqX (hr.units)) opd_eq (nomark _) (ev_fn call_len fnd_len rfl T.b_len PySem.boot_len (av_cons (ev_n 0) av_nil)) (ev_fn call_len fnd_len rfl T.b_len PySem.boot_len (av_cons (ev_n 1) av_nil))) (ev_one (ev_cmp (op_eqX (hr.units)) opd_eq (nomark _) (ev_comp (own := [("k", 2)]) rfl sc__law_same.nd (blkOk_by (N := N__law_same) (sc := defScope s__law_same) (by decide +kernel)) (iv_range1 rfl T.b_range (ev_fn call_len fnd_len rfl T.b_len PySem.boot_len (av_cons (ev_n 1) av_nil))) (fun _ _ _ _ _ => (gv_n 2 sc__law_same.nd)) (fun _ _ _ _ _ => tsv_one (tv_cmp (op_neX (hr.units)) opd_ne (nomark _) (ev_slice (ev_n 0) (ov_some (ev_n 2)) (ov_some (ev_add (ev_n 2) ev_int))) (ev_item (fun _ _ => rfl) (ev_n 1) (ev_n 2)))) (fun _ _ _ _ _ => (ev_n 2))) (ev_lstE av_nil))))))) bv_nil)
    (bv_cons (sv_if (tv_val (ev_fn call_isi fnd_isi rfl T.b_isinstance PyProof.Rows.boot_isinstance (av_cons (ev_n 1) (av_cons (ev_cls rfl T.b_dict (by decide +kernel)) av_nil)))) (bv_one sv_never) bv_nil)
    (bv_cons (sv_if (tv_w (wv_or (tv_cmp (op_neX (hr.units)) opd_ne (nomark _) (ev_fn call_isi fnd_isi rfl T.b_isinstance PyProof.Rows.boot_isinstance (av_cons (ev_n 0) (av_cons (ev_cls rfl T.b_list (by decide +kernel)) av_nil))) (ev_fn call_isi fnd_isi rfl T.b_isinstance PyProof.Rows.boot_isinstance (av_cons (ev_n 1) (av_cons (ev_cls rfl T.b_list (by decide +kernel)) av_nil)))) (wv_one_or (tv_cmp (op_neX (hr.units)) opd_ne (nomark _) (ev_fn call_isi fnd_isi rfl T.b_isinstance PyProof.Rows.boot_isinstance (av_cons (ev_n 0) (av_cons (ev_cls rfl T.b_tuple (by decide +kernel)) av_nil))) (ev_fn call_isi fnd_isi rfl T.b_isinstance PyProof.Rows.boot_isinstance (av_cons (ev_n 1) (av_cons (ev_cls rfl T.b_tuple (by decide +kernel)) av_nil))))))) (bv_one (sv_ret ev_bl)) bv_nil)
    (bv_cons (sv_if (tv_w (wv_or (tv_not (tv_val (ev_isi2 rfl T.b_isinstance (pe_cls rfl T.b_list (by decide +kernel)) (pe_cls rfl T.b_tuple (by decide +kernel)) (ev_n 0)))) (wv_one_or (tv_cmp (op_neX (hr.units)) opd_ne (nomark _) (ev_fn call_len fnd_len rfl T.b_len PySem.boot_len (av_cons (ev_n 0) av_nil)) (ev_fn call_len fnd_len rfl T.b_len PySem.boot_len (av_cons (ev_n 1) av_nil)))))) (bv_one (sv_ret ev_bl)) bv_nil)
    (bv_one (sv_ret (ev_cmp (op_eqX (hr.units)) opd_eq (nomark _) (ev_comp (own := [("k", 2)]) rfl sc__law_same.nd (blkOk_by (N := N__law_same) (sc := defScope s__law_same) (by decide +kernel)) (iv_range1 rfl T.b_range (ev_fn call_len fnd_len rfl T.b_len PySem.boot_len (av_cons (ev_n 1) av_nil))) (fun _ _ _ _ _ => (gv_n 2 sc__law_same.nd)) (fun _ _ _ _ _ => tsv_one (tv_not (tv_val (ev_call (ok__law_same T n) hr (av_cons (ev_fz (ev_item (fun _ _ => rfl) (ev_n 0) (ev_n 2))) (av_cons (ev_fz (ev_item (fun _ _ => rfl) (ev_n 1) (ev_n 2))) av_nil)))))) (fun _ _ _ _ _ => (ev_n 2))) (ev_lstE av_nil))))))))))) (fun _ _ _ _ _ _ us hl => match us, hl with | [_, _], _ => rfl)
abbrev s__law_mixed : Stmt := topS 31
abbrev N__law_mixed : List Str := ["box", "many", "left", "found"]
theorem sc__law_mixed : FnScope N__law_mixed ["box", "many"] (defScope s__law_mixed) := ⟨rfl, rfl, rfl, by decide +kernel, rfl, by decide +kernel, by decide +kernel⟩
def B__law_mixed : Sx := sSeq (sParN [2, 3] (aoCons (bListRange (bV 1)) (aoCons (bLstE (aNil)) (aNil))))
    (sSeq (sWhile 1000000 (bT (bOp neD (bV 2) (bLstE (aNil)))) (sDrop (bMu 3 appendD (aCons (bFz (bMu 2 popAtD (aCons (bFz (bCall F__law_take (aCons (bV 0) (aCons (bFz (bFn lenD (aCons (bV 2) (aNil)))) (aNil))))) (aNil)))) (aNil)))))
    (sRet (bV 3)))
def F__law_mixed : Fx := runB 4 2 B__law_mixed
theorem fok__law_mixed (T : Tx K mg) (f : Addr) (fd : FuncData) (F : Fun K "_law_mixed" "_law_mixed" s__law_mixed f fd) : FnOk P w K mg base CX0 2 f fd ["box", "many"] (spV K F__law_mixed) := fn_ok (N := N__law_mixed) (body := B__law_mixed) F sc__law_mixed rfl fun cdv A outer s H E hr =>
    (bv_cons (sv_par2 (fs := _) (i := 2) (j := 3) rfl sc__law_mixed.nd rfl rfl (by decide) rfl rfl (ao_cons (ev_listRange rfl rfl T.b_list rfl T.b_range (ev_n 1)) (ao_cons (ev_lstE av_nil) ao_nil)) rfl)
    (bv_cons (sv_while PassesOwn.never (tv_cmp (op_neX (hr.units)) opd_ne (nomark _) (ev_n 2) (ev_lstE av_nil)) (bv_one (sv_expr (ev_append (pv 3) (av_cons (ev_fz (ev_popAt (pv 2) (av_cons (ev_fz (ev_call (ok__law_take T) (hr.mono (by decide)) (av_cons (ev_n 0) (av_cons (ev_fz (ev_fn call_len fnd_len rfl T.b_len PySem.boot_len (av_cons (ev_n 2) av_nil))) av_nil)))) av_nil))) av_nil)))))
    (bv_one (sv_ret (ev_n 3)))))
theorem ok__law_mixed (T : Tx K mg) : DefOk P w K mg base "_law_mixed" 2 ["box", "many"] F__law_mixed := def_of T.d__law_mixed (fok__law_mixed T) (fun _ _ _ _ _ _ us hl => match us, hl with | [_, _], _ => rfl)
abbrev s__law_drawn : Stmt := topS 32
abbrev N__law_drawn : List Str := ["box", "letters", "most", "k"]
theorem sc__law_drawn : FnScope N__law_drawn ["box", "letters", "most"] (defScope s__law_drawn) := ⟨rfl, rfl, rfl, by decide +kernel, rfl, by decide +kernel, by decide +kernel⟩
def B__law_drawn : Sx := sRet (bMt joinD (bC (.str [])) (aCons (bComp (iRange1 (bCall F__law_take (aCons (bV 0) (aCons (bFz (bOp addD (bV 2) (bC (.int 1)))) (aNil))))) [3] (bName 3) (bYes) (bOp ixD (bC (.str [97, 98, 99, 100])) (bCall F__law_take (aCons (bV 0) (aCons (bFz (bV 1)) (aNil)))))) (aNil)))
def F__law_drawn : Fx := runB 4 3 B__law_drawn
theorem fok__law_drawn (T : Tx K mg) (f : Addr) (fd : FuncData) (F : Fun K "_law_drawn" "_law_drawn" s__law_drawn f fd) : FnOk P w K mg base CX0 2 f fd ["box", "letters", "most"] (spV K F__law_drawn) := fn_ok (N := N__law_drawn) (body := B__law_drawn) F sc__law_drawn rfl fun cdv A outer s H E hr =>
    (bv_one (sv_ret (ev_join (ev_str (l := []) (by decide +kernel)) (av_cons (ev_comp (own := [("k", 3)]) rfl sc__law_drawn.nd (blkOk_by (N := N__law_drawn) (sc := defScope s__law_drawn) (by decide +kernel)) (iv_range1 rfl T.b_range (ev_call (ok__law_take T) (hr.mono (by decide)) (av_cons (ev_n 0) (av_cons (ev_fz (ev_add (ev_n 2) ev_int)) av_nil)))) (fun _ _ _ _ _ => (gv_n 3 sc__law_drawn.nd)) (fun _ _ _ _ _ => tsv_nil) (fun _ _ _ _ _ => (ev_item (fun _ _ => rfl) (ev_str (l := [97, 98, 99, 100]) (by decide +kernel)) (ev_call (ok__law_take T) (hr.mono (by decide)) (av_cons (ev_n 0) (av_cons (ev_fz (ev_n 1)) av_nil)))))) av_nil))))
theorem ok__law_drawn (T : Tx K mg) : DefOk P w K mg base "_law_drawn" 2 ["box", "letters", "most"] F__law_drawn := def_of T.d__law_drawn (fok__law_drawn T) (fun _ _ _ _ _ _ us hl => match us, hl with | [_, _, _], _ => rfl)
abbrev s__law_near : Stmt := topS 33
abbrev N__law_near : List Str := ["box", "word", "letters", "at", "way", "letter"]
theorem sc__law_near : FnScope N__law_near ["box", "word", "letters"] (defScope s__law_near) := ⟨rfl, rfl, rfl, by decide +kernel, rfl, by decide +kernel, by decide +kernel⟩
def B__law_near : Sx := sSeq (sParN [3, 4, 5] (aoCons (bCall F__law_take (aCons (bV 0) (aCons (bFz (bOp addD (bFn lenD (aCons (bV 1) (aNil))) (bC (.int 1)))) (aNil)))) (aoCons (bCall F__law_take (aCons (bV 0) (aCons (bFz (bC (.int 6))) (aNil)))) (aoCons (bOp ixD (bC (.str [97, 98, 99, 100])) (bCall F__law_take (aCons (bV 0) (aCons (bFz (bV 2)) (aNil))))) (aNil)))))
    (sSeq (sIf (bT (bOp eqD (bV 4) (bC (.int 0)))) (sRet (bOp addD (bOp addD (bSl (bV 1) (oNone) (oSome (bV 3))) (bV 5)) (bSl (bV 1) (oSome (bOp addD (bV 3) (bC (.int 1)))) (oNone)))) (sNx))
    (sSeq (sIf (bOr (bT (bOp eqD (bV 4) (bC (.int 1)))) (bT (bOp eqD (bV 1) (bC (.str []))))) (sRet (bOp addD (bOp addD (bSl (bV 1) (oNone) (oSome (bV 3))) (bV 5)) (bSl (bV 1) (oSome (bV 3)) (oNone)))) (sNx))
    (sSeq (sIf (bT (bOp eqD (bV 4) (bC (.int 2)))) (sRet (bOp addD (bSl (bV 1) (oNone) (oSome (bV 3))) (bSl (bV 1) (oSome (bOp addD (bV 3) (bC (.int 1)))) (oNone)))) (sNx))
    (sRet (bIf (bT (bOp eqD (bV 4) (bC (.int 3)))) (bOp addD (bOp addD (bOp addD (bSl (bV 1) (oNone) (oSome (bV 3))) (bSl (bV 1) (oSome (bOp addD (bV 3) (bC (.int 1)))) (oSome (bOp addD (bV 3) (bC (.int 2)))))) (bSl (bV 1) (oSome (bV 3)) (oSome (bOp addD (bV 3) (bC (.int 1)))))) (bSl (bV 1) (oSome (bOp addD (bV 3) (bC (.int 2)))) (oNone))) (bV 1))))))
def F__law_near : Fx := runB 6 3 B__law_near
theorem fok__law_near (T : Tx K mg) (f : Addr) (fd : FuncData) (F : Fun K "_law_near" "_law_near" s__law_near f fd) : FnOk P w K mg base CX0 2 f fd ["box", "word", "letters"] (spV K F__law_near) := fn_ok (N := N__law_near) (body := B__law_near) F sc__law_near rfl fun cdv A outer s H E hr =>
    (bv_cons (sv_par3 (fs := _) (i := 3) (j := 4) (l := 5) rfl sc__law_near.nd rfl rfl rfl (by decide) (by decide) (by decide) rfl rfl rfl (ao_cons (ev_call (ok__law_take T) (hr.mono (by decide)) (av_cons (ev_n 0) (av_cons (ev_fz (ev_add (ev_fn call_len fnd_len rfl T.b_len PySem.boot_len (av_cons (ev_n 1) av_nil)) ev_int)) av_nil))) (ao_cons (ev_call (ok__law_take T) (hr.mono (by decide)) (av_cons (ev_n 0) (av_cons (ev_fz ev_int) av_nil))) (ao_cons (ev_item (fun _ _ => rfl) (ev_str (l := [97, 98, 99, 100]) (by decide +kernel)) (ev_call (ok__law_take T) (hr.mono (by decide)) (av_cons (ev_n 0) (av_cons (ev_fz (ev_n 2)) av_nil)))) ao_nil))) rfl)
    (bv_cons (sv_if (tv_cmp (op_eqX (hr.units)) opd_eq (nomark _) (ev_n 4) ev_int) (bv_one (sv_ret (ev_add (ev_add (ev_slice (ev_n 1) ov_none (ov_some (ev_n 3))) (ev_n 5)) (ev_slice (ev_n 1) (ov_some (ev_add (ev_n 3) ev_int)) ov_none)))) bv_nil)
    (bv_cons (sv_if (tv_w (wv_or (tv_cmp (op_eqX (hr.units)) opd_eq (nomark _) (ev_n 4) ev_int) (wv_one_or (tv_cmp (op_eqX (hr.units)) opd_eq (nomark _) (ev_n 1) (ev_str (l := []) (by decide +kernel)))))) (bv_one (sv_ret (ev_add (ev_add (ev_slice (ev_n 1) ov_none (ov_some (ev_n 3))) (ev_n 5)) (ev_slice (ev_n 1) (ov_some (ev_n 3)) ov_none)))) bv_nil)
    (bv_cons (sv_if (tv_cmp (op_eqX (hr.units)) opd_eq (nomark _) (ev_n 4) ev_int) (bv_one (sv_ret (ev_add (ev_slice (ev_n 1) ov_none (ov_some (ev_n 3))) (ev_slice (ev_n 1) (ov_some (ev_add (ev_n 3) ev_int)) ov_none)))) bv_nil)
    (bv_one (sv_ret (ev_ifE (tv_cmp (op_eqX (hr.units)) opd_eq (nomark _) (ev_n 4) ev_int) (ev_add (ev_add (ev_add (ev_slice (ev_n 1) ov_none (ov_some (ev_n 3))) (ev_slice (ev_n 1) (ov_some (ev_add (ev_n 3) ev_int)) (ov_some (ev_add (ev_n 3) ev_int)))) (ev_slice (ev_n 1) (ov_some (ev_n 3)) (ov_some (ev_add (ev_n 3) ev_int)))) (ev_slice (ev_n 1) (ov_some (ev_add (ev_n 3) ev_int)) ov_none)) (ev_n 1))))))))
theorem ok__law_near (T : Tx K mg) : DefOk P w K mg base "_law_near" 2 ["box", "word", "letters"] F__law_near := def_of T.d__law_near (fok__law_near T) (fun _ _ _ _ _ _ us hl => match us, hl with | [_, _, _], _ => rfl)
abbrev s__law_image : Stmt := topS 34
abbrev N__law_image : List Str := ["images", "word", "letter"]
theorem sc__law_image : FnScope N__law_image ["images", "word"] (defScope s__law_image) := ⟨rfl, rfl, rfl, by decide +kernel, rfl, by decide +kernel, by decide +kernel⟩
def B__law_image : Sx := sRet (bMt joinD (bC (.str [])) (aCons (bComp (iTxt (bV 1)) [2] (bName 2) (bYes) (bIf (bT (bOp eqD (bV 0) (bTupE (aNil)))) (bC (.str [])) (bOp ixD (bV 0) (bMt sindexD (bC (.str [97, 98, 99, 100])) (aCons (bV 2) (aNil)))))) (aNil)))
def F__law_image : Fx := runB 3 2 B__law_image
theorem fok__law_image (T : Tx K mg) (f : Addr) (fd : FuncData) (F : Fun K "_law_image" "_law_image" s__law_image f fd) : FnOk P w K mg base CX0 1 f fd ["images", "word"] (spV K F__law_image) := fn_ok (N := N__law_image) (body := B__law_image) F sc__law_image rfl fun cdv A outer s H E hr =>
    (bv_one (sv_ret (ev_join (ev_str (l := []) (by decide +kernel)) (av_cons (ev_comp (own := [("letter", 2)]) rfl sc__law_image.nd (blkOk_by (N := N__law_image) (sc := defScope s__law_image) (by decide +kernel)) (iv_txt (ev_n 1)) (fun _ _ _ _ _ => (gv_n 2 sc__law_image.nd)) (fun _ _ _ _ _ => tsv_nil) (fun _ _ _ _ _ => (ev_ifE (tv_cmp (op_eqX (hr.units)) opd_eq (nomark _) (ev_n 0) (ev_tupE av_nil)) (ev_str (l := []) (by decide +kernel)) (ev_item (fun _ _ => rfl) (ev_n 0) (ev_sindex (ev_str (l := [97, 98, 99, 100]) (by decide +kernel)) (av_cons (ev_n 2) av_nil)))))) av_nil))))
theorem ok__law_image (T : Tx K mg) : DefOk P w K mg base "_law_image" 1 ["images", "word"] F__law_image := def_of T.d__law_image (fok__law_image T) (fun _ _ _ _ _ _ us hl => match us, hl with | [_, _], _ => rfl)
abbrev s__law_has_square : Stmt := topS 35
abbrev N__law_has_square : List Str := ["word", "size", "k"]
theorem sc__law_has_square : FnScope N__law_has_square ["word"] (defScope s__law_has_square) := ⟨rfl, rfl, rfl, by decide +kernel, rfl, by decide +kernel, by decide +kernel⟩
def B__law_has_square : Sx := sSeq (sFor (iRange2 (bC (.int 1)) (bOp addD (bOp fdivD (bFn lenD (aCons (bV 0) (aNil))) (bC (.int 2))) (bC (.int 1)))) (bName 1) (sFor (iRange1 (bOp addD (bOp subD (bFn lenD (aCons (bV 0) (aNil))) (bOp mulD (bC (.int 2)) (bV 1))) (bC (.int 1)))) (bName 2) (sIf (bT (bOp eqD (bSl (bV 0) (oSome (bV 2)) (oSome (bOp addD (bV 2) (bV 1)))) (bSl (bV 0) (oSome (bOp addD (bV 2) (bV 1))) (oSome (bOp addD (bV 2) (bOp mulD (bC (.int 2)) (bV 1))))))) (sRet (bC (.bl true))) (sNx))))
    (sRet (bC (.bl false)))
def F__law_has_square : Fx := runB 3 1 B__law_has_square
theorem fok__law_has_square (T : Tx K mg) (f : Addr) (fd : FuncData) (F : Fun K "_law_has_square" "_law_has_square" s__law_has_square f fd) : FnOk P w K mg base CX0 1 f fd ["word"] (spV K F__law_has_square) := fn_ok (N := N__law_has_square) (body := B__law_has_square) F sc__law_has_square rfl fun cdv A outer s H E hr =>
    (bv_cons (sv_for PassesOwn.never rfl (iv_range2 rfl T.b_range ev_int (ev_add (ev_fdiv (ev_fn call_len fnd_len rfl T.b_len PySem.boot_len (av_cons (ev_n 0) av_nil)) ev_int) ev_int)) (gv_n 1 sc__law_has_square.nd) (bv_one (sv_for PassesOwn.never rfl (iv_range1 rfl T.b_range (ev_add (ev_sub (ev_fn call_len fnd_len rfl T.b_len PySem.boot_len (av_cons (ev_n 0) av_nil)) (ev_mul ev_int (ev_n 1))) ev_int)) (gv_n 2 sc__law_has_square.nd) (bv_one (sv_if (tv_cmp (op_eqX (hr.units)) opd_eq (nomark _) (ev_slice (ev_n 0) (ov_some (ev_n 2)) (ov_some (ev_add (ev_n 2) (ev_n 1)))) (ev_slice (ev_n 0) (ov_some (ev_add (ev_n 2) (ev_n 1))) (ov_some (ev_add (ev_n 2) (ev_mul ev_int (ev_n 1)))))) (bv_one (sv_ret ev_bl)) bv_nil)))))
    (bv_one (sv_ret ev_bl)))
theorem ok__law_has_square (T : Tx K mg) : DefOk P w K mg base "_law_has_square" 1 ["word"] F__law_has_square := def_of T.d__law_has_square (fok__law_has_square T) (fun _ _ _ _ _ _ us hl => match us, hl with | [_], _ => rfl)
abbrev s__law_ends_square : Stmt := topS 36
abbrev N__law_ends_square : List Str := ["word", "size"]
theorem sc__law_ends_square : FnScope N__law_ends_square ["word"] (defScope s__law_ends_square) := ⟨rfl, rfl, rfl, by decide +kernel, rfl, by decide +kernel, by decide +kernel⟩
def B__law_ends_square : Sx := sRet (bOp neD (bComp (iRange2 (bC (.int 1)) (bOp addD (bOp fdivD (bFn lenD (aCons (bV 0) (aNil))) (bC (.int 2))) (bC (.int 1)))) [1] (bName 1) (bT (bOp eqD (bSl (bV 0) (oSome (bUn negD (bV 1))) (oNone)) (bSl (bV 0) (oSome (bOp mulD (bUn negD (bC (.int 2))) (bV 1))) (oSome (bUn negD (bV 1)))))) (bV 1)) (bLstE (aNil)))
def F__law_ends_square : Fx := runB 2 1 B__law_ends_square
theorem fok__law_ends_square (T : Tx K mg) (f : Addr) (fd : FuncData) (F : Fun K "_law_ends_square" "_law_ends_square" s__law_ends_square f fd) : FnOk P w K mg base CX0 1 f fd ["word"] (spV K F__law_ends_square) := fn_ok (N := N__law_ends_square) (body := B__law_ends_square) F sc__law_ends_square rfl fun cdv A outer s H E hr =>
    (bv_one (sv_ret (ev_cmp (op_neX (hr.units)) opd_ne (nomark _) (ev_comp (own := [("size", 1)]) rfl sc__law_ends_square.nd (blkOk_by (N := N__law_ends_square) (sc := defScope s__law_ends_square) (by decide +kernel)) (iv_range2 rfl T.b_range ev_int (ev_add (ev_fdiv (ev_fn call_len fnd_len rfl T.b_len PySem.boot_len (av_cons (ev_n 0) av_nil)) ev_int) ev_int)) (fun _ _ _ _ _ => (gv_n 1 sc__law_ends_square.nd)) (fun _ _ _ _ _ => tsv_one (tv_cmp (op_eqX (hr.units)) opd_eq (nomark _) (ev_slice (ev_n 0) (ov_some (ev_neg (ev_n 1))) ov_none) (ev_slice (ev_n 0) (ov_some (ev_mul (ev_neg ev_int) (ev_n 1))) (ov_some (ev_neg (ev_n 1)))))) (fun _ _ _ _ _ => (ev_n 1))) (ev_lstE av_nil))))
theorem ok__law_ends_square (T : Tx K mg) : DefOk P w K mg base "_law_ends_square" 1 ["word"] F__law_ends_square := def_of T.d__law_ends_square (fok__law_ends_square T) (fun _ _ _ _ _ _ us hl => match us, hl with | [_], _ => rfl)
abbrev s__law_break : Stmt := topS 37
abbrev N__law_break : List Str := ["images", "least", "most", "rows", "end", "size", "longer", "row", "word", "letter"]
theorem sc__law_break : FnScope N__law_break ["images"] (defScope s__law_break) := ⟨rfl, rfl, rfl, by decide +kernel, rfl, by decide +kernel, by decide +kernel⟩
def B__law_break : Sx := sSeq (sParN [1, 2, 3] (aoCons (bFn minD (aCons (bComp (iTpl (bV 0)) [8] (bName 8) (bYes) (bFn lenD (aCons (bV 8) (aNil)))) (aNil))) (aoCons (bFn maxD (aCons (bComp (iTpl (bV 0)) [8] (bName 8) (bYes) (bFn lenD (aCons (bV 8) (aNil)))) (aNil))) (aoCons (bLstE (aCons (bFz (bC (.str []))) (aNil))) (aNil)))))
    (sSeq (sSet 4 (bFz (bIf (bT (bOp eqD (bV 1) (bC (.int 0)))) (bC (.int 3)) (bFn maxD (aCons (bC (.int 3)) (aCons (bOp subD (bC (.int 1)) (bOp fdivD (bOp subD (bC (.int 3)) (bV 2)) (bV 1))) (aNil)))))))
    (sSeq (sFor (iRange2 (bC (.int 1)) (bOp addD (bV 4) (bC (.int 1)))) (bName 5) (sSeq (sSet 6 (bLstE (aNil)))
    (sSeq (sFor (iLst (bV 3)) (bName 7) (sDrop (bMu 6 extendD (aCons (bFz (bComp (iTxt (bSl (bC (.str [97, 98, 99, 100])) (oNone) (oSome (bFn lenD (aCons (bV 0) (aNil)))))) [9] (bName 9) (bNot (bT (bCall F__law_ends_square (aCons (bFz (bOp addD (bV 7) (bV 9))) (aNil))))) (bOp addD (bV 7) (bV 9)))) (aNil)))))
    (sSeq (sSet 3 (bFz (bV 6)))
    (sFor (iLst (bV 3)) (bName 7) (sIf (bT (bCall F__law_has_square (aCons (bFz (bCall F__law_image (aCons (bFz (bV 0)) (aCons (bFz (bV 7)) (aNil))))) (aNil)))) (sRet (bV 7)) (sNx)))))))
    (sRet (bC .non))))
def F__law_break : Fx := runB 10 1 B__law_break
theorem fok__law_break (T : Tx K mg) (f : Addr) (fd : FuncData) (F : Fun K "_law_break" "_law_break" s__law_break f fd) : FnOk P w K mg base CX0 2 f fd ["images"] (spV K F__law_break) := fn_ok (N := N__law_break) (body := B__law_break) F sc__law_break rfl fun cdv A outer s H E hr =>
    (bv_cons (sv_par3 (fs := _) (i := 1) (j := 2) (l := 3) rfl sc__law_break.nd rfl rfl rfl (by decide) (by decide) (by decide) rfl rfl rfl (ao_cons (ev_fn (CallR_or (call_min2 rfl) (cr_min rfl)) fnd_min rfl T.b_min PyProof.Rows.boot_min (av_cons (ev_comp (own := [("word", 8)]) rfl sc__law_break.nd (blkOk_by (N := N__law_break) (sc := defScope s__law_break) (by decide +kernel)) (iv_tup (ev_n 0)) (fun _ _ _ _ _ => (gv_n 8 sc__law_break.nd)) (fun _ _ _ _ _ => tsv_nil) (fun _ _ _ _ _ => (ev_fn call_len fnd_len rfl T.b_len PySem.boot_len (av_cons (ev_n 8) av_nil)))) av_nil)) (ao_cons (ev_fn (CallR_or (call_max2 rfl) (cr_max rfl)) fnd_max rfl T.b_max PyProof.Rows.boot_max (av_cons (ev_comp (own := [("word", 8)]) rfl sc__law_break.nd (blkOk_by (N := N__law_break) (sc := defScope s__law_break) (by decide +kernel)) (iv_tup (ev_n 0)) (fun _ _ _ _ _ => (gv_n 8 sc__law_break.nd)) (fun _ _ _ _ _ => tsv_nil) (fun _ _ _ _ _ => (ev_fn call_len fnd_len rfl T.b_len PySem.boot_len (av_cons (ev_n 8) av_nil)))) av_nil)) (ao_cons (ev_lstE (av_cons (ev_fz (ev_str (l := []) (by decide +kernel))) av_nil)) ao_nil))) rfl)
    (bv_cons (sv_n 4 sc__law_break.nd (ev_fz (ev_ifE (tv_cmp (op_eqX (hr.units)) opd_eq (nomark _) (ev_n 1) ev_int) ev_int (ev_fn (CallR_or (call_max2 rfl) (cr_max rfl)) fnd_max rfl T.b_max PyProof.Rows.boot_max (av_cons ev_int (av_cons (ev_sub ev_int (ev_fdiv (ev_sub ev_int (ev_n 2)) (ev_n 1))) av_nil))))))
    (bv_cons (sv_for PassesOwn.never rfl (iv_range2 rfl T.b_range ev_int (ev_add (ev_n 4) ev_int)) (gv_n 5 sc__law_break.nd) (bv_cons (sv_n 6 sc__law_break.nd (ev_lstE av_nil))
    (bv_cons (sv_for PassesOwn.never rfl (iv_list (ev_n 3)) (gv_n 7 sc__law_break.nd) (bv_one (sv_expr (ev_extend (pv 6) (av_cons (ev_fz (ev_comp (own := [("letter", 9)]) rfl sc__law_break.nd (blkOk_by (N := N__law_break) (sc := defScope s__law_break) (by decide +kernel)) (iv_txt (ev_slice (ev_str (l := [97, 98, 99, 100]) (by decide +kernel)) ov_none (ov_some (ev_fn call_len fnd_len rfl T.b_len PySem.boot_len (av_cons (ev_n 0) av_nil))))) (fun _ _ _ _ _ => (gv_n 9 sc__law_break.nd)) (fun _ _ _ _ _ => tsv_one (tv_not (tv_val (ev_call (ok__law_ends_square T) (hr.mono (by decide)) (av_cons (ev_fz (ev_add (ev_n 7) (ev_n 9))) av_nil))))) (fun _ _ _ _ _ => (ev_add (ev_n 7) (ev_n 9))))) av_nil)))))
    (bv_cons (sv_n 3 sc__law_break.nd (ev_fz (ev_n 6)))
    (bv_one (sv_for PassesOwn.never rfl (iv_list (ev_n 3)) (gv_n 7 sc__law_break.nd) (bv_one (sv_if (tv_val (ev_call (ok__law_has_square T) (hr.mono (by decide)) (av_cons (ev_fz (ev_call (ok__law_image T) (hr.mono (by decide)) (av_cons (ev_fz (ev_n 0)) (av_cons (ev_fz (ev_n 7)) av_nil)))) av_nil))) (bv_one (sv_ret (ev_n 7))) bv_nil))))))))
    (bv_one (sv_ret ev_non)))))
theorem ok__law_break (T : Tx K mg) : DefOk P w K mg base "_law_break" 2 ["images"] F__law_break := def_of T.d__law_break (fok__law_break T) (fun _ _ _ _ _ _ us hl => match us, hl with | [_], _ => rfl)
abbrev s__law_free : Stmt := topS 38
abbrev N__law_free : List Str := ["box", "letters", "size", "found", "turn", "order", "k", "letter"]
theorem sc__law_free : FnScope N__law_free ["box", "letters", "size"] (defScope s__law_free) := ⟨rfl, rfl, rfl, by decide +kernel, rfl, by decide +kernel, by decide +kernel⟩
def B__law_free : Sx := sSeq (sSet 3 (bC (.str [])))
    (sSeq (sFor (iRange1 (bV 2)) (bName 4) (sSeq (sSet 5 (bComp (iLst (bComp (iLst (bCall F__law_mixed (aCons (bV 0) (aCons (bFz (bV 1)) (aNil))))) [6] (bName 6) (bYes) (bOp ixD (bC (.str [97, 98, 99, 100])) (bV 6)))) [7] (bName 7) (bNot (bT (bCall F__law_ends_square (aCons (bFz (bOp addD (bV 3) (bV 7))) (aNil))))) (bV 7)))
    (sSeq (sIf (bT (bOp eqD (bV 5) (bLstE (aNil)))) (sBk) (sNx))
    (sSet 3 (bOp addD (bV 3) (bOp ixD (bV 5) (bC (.int 0))))))))
    (sRet (bV 3)))
def F__law_free : Fx := runB 8 3 B__law_free
theorem fok__law_free (T : Tx K mg) (f : Addr) (fd : FuncData) (F : Fun K "_law_free" "_law_free" s__law_free f fd) : FnOk P w K mg base CX0 3 f fd ["box", "letters", "size"] (spV K F__law_free) := fn_ok (N := N__law_free) (body := B__law_free) F sc__law_free rfl fun cdv A outer s H E hr =>
    (bv_cons (sv_n 3 sc__law_free.nd (ev_str (l := []) (by decide +kernel)))
    (bv_cons (sv_for PassesOwn.never rfl (iv_range1 rfl T.b_range (ev_n 2)) (gv_n 4 sc__law_free.nd) (bv_cons (sv_setComp (own := [("letter", 7)]) (i := 5) rfl sc__law_free.nd rfl rfl (sw_true rfl rfl rfl (by decide +kernel)) (blkOk_by (N := N__law_free) (sc := defScope s__law_free) (by decide +kernel)) (iv_list (ev_comp (own := [("k", 6)]) rfl sc__law_free.nd (blkOk_by (N := N__law_free) (sc := defScope s__law_free) (by decide +kernel)) (iv_list (ev_call (ok__law_mixed T) (hr.mono (by decide)) (av_cons (ev_n 0) (av_cons (ev_fz (ev_n 1)) av_nil)))) (fun _ _ _ _ _ => (gv_n 6 sc__law_free.nd)) (fun _ _ _ _ _ => tsv_nil) (fun _ _ _ _ _ => (ev_item (fun _ _ => rfl) (ev_str (l := [97, 98, 99, 100]) (by decide +kernel)) (ev_n 6))))) (fun _ _ _ _ _ => (gv_n 7 sc__law_free.nd)) (fun _ _ _ _ _ => tsv_one (tv_not (tv_val (ev_call (ok__law_ends_square T) (hr.mono (by decide)) (av_cons (ev_fz (ev_add (ev_n 3) (ev_n 7))) av_nil))))) (fun _ _ _ _ _ => (ev_n 7)))
    (bv_cons (sv_if (tv_cmp (op_eqX (hr.units)) opd_eq (nomark _) (ev_n 5) (ev_lstE av_nil)) (bv_one sv_break) bv_nil)
    (bv_one (sv_n 3 sc__law_free.nd (ev_add (ev_n 3) (ev_item (fun _ _ => rfl) (ev_n 5) ev_int)))))))
    (bv_one (sv_ret (ev_n 3)))))
theorem ok__law_free (T : Tx K mg) : DefOk P w K mg base "_law_free" 3 ["box", "letters", "size"] F__law_free := def_of T.d__law_free (fok__law_free T) (fun _ _ _ _ _ _ us hl => match us, hl with | [_, _, _], _ => rfl)
abbrev s__law_images : Stmt := topS 39
abbrev N__law_images : List Str := ["box", "way", "known", "images", "many", "size", "at", "letters", "least", "letter", "word"]
theorem sc__law_images : FnScope N__law_images ["box"] (defScope s__law_images) := ⟨rfl, rfl, rfl, by decide +kernel, rfl, by decide +kernel, by decide +kernel⟩
def B__law_images : Sx := sSeq (sSet 1 (bCall F__law_take (aCons (bV 0) (aCons (bFz (bC (.int 9))) (aNil)))))
    (sSeq (sSet 2 (bLstE (aCons (bFz (bTupE (aCons (bFz (bC (.str [97, 98, 99, 97, 98]))) (aCons (bFz (bC (.str [97, 99, 97, 98, 99, 98]))) (aCons (bFz (bC (.str [97, 99, 98, 99, 97, 99, 98]))) (aNil)))))) (aCons (bFz (bTupE (aCons (bFz (bC (.str [97, 98, 99, 98, 97, 99, 98, 99, 97, 98, 99, 98, 97]))) (aCons (bFz (bC (.str [98, 99, 97, 99, 98, 97, 99, 97, 98, 99, 97, 99, 98]))) (aCons (bFz (bC (.str [99, 97, 98, 97, 99, 98, 97, 98, 99, 97, 98, 97, 99]))) (aNil)))))) (aCons (bFz (bTupE (aCons (bFz (bC (.str [97, 98, 99]))) (aCons (bFz (bC (.str [98, 99, 97]))) (aCons (bFz (bC (.str [99, 97, 98]))) (aNil)))))) (aCons (bFz (bTupE (aCons (bFz (bC (.str [97, 98, 97, 99, 97, 98, 99, 97, 99, 98, 97, 98, 99, 98, 97, 99]))) (aCons (bFz (bC (.str [97]))) (aCons (bFz (bC (.str [98]))) (aNil)))))) (aCons (bFz (bTupE (aCons (bFz (bC (.str [97, 98, 99, 97, 99, 98, 97, 98, 99, 98]))) (aCons (bFz (bC (.str [97, 98, 99, 98, 97, 99, 97, 98, 99, 98]))) (aCons (bFz (bC (.str [97, 98, 99, 98, 97, 99, 98, 99, 97, 99]))) (aNil)))))) (aCons (bFz (bTupE (aCons (bFz (bC (.str [98]))) (aCons (bFz (bC (.str [99]))) (aCons (bFz (bC (.str [97]))) (aNil)))))) (aCons (bFz (bTupE (aCons (bFz (bC (.str [97, 98, 99, 100]))) (aCons (bFz (bC (.str [98, 97, 100, 99]))) (aCons (bFz (bC (.str [99, 100, 97, 98]))) (aCons (bFz (bC (.str [100, 99, 98, 97]))) (aNil))))))) (aCons (bFz (bTupE (aCons (bFz (bC (.str [97, 98, 99, 98]))) (aCons (bFz (bC (.str [97, 99, 98, 99]))) (aNil))))) (aCons (bFz (bTupE (aCons (bFz (bC (.str [97, 98, 97, 99, 98]))) (aCons (bFz (bC (.str [97, 98, 99, 97, 99, 98]))) (aNil))))) (aNil))))))))))))
    (sSeq (sSet 3 (bOp ixD (bV 2) (bCall F__law_take (aCons (bV 0) (aCons (bFz (bFn lenD (aCons (bV 2) (aNil)))) (aNil))))))
    (sSeq (sSet 4 (bOp addD (bC (.int 1)) (bCall F__law_take (aCons (bV 0) (aCons (bFz (bC (.int 4))) (aNil))))))
    (sSeq (sIf (bT (bOp eqD (bV 1) (bC (.int 0)))) (sSet 3 (bOp mulT (bTupE (aCons (bFz (bC (.str []))) (aNil))) (bV 4))) (sNx))
    (sSeq (sIf (bT (bOp inD (bV 1) (bTupE (aCons (bFz (bC (.int 1))) (aCons (bFz (bC (.int 2))) (aCons (bFz (bC (.int 3))) (aNil))))))) (sSeq (sSet 5 (bOp addD (bC (.int 2)) (bCall F__law_take (aCons (bV 0) (aCons (bFz (bC (.int 6))) (aNil))))))
    (sSet 3 (bFn tupleD (aCons (bComp (iRange1 (bV 4)) [9] (bName 9) (bYes) (bCall F__law_free (aCons (bV 0) (aCons (bFz (bV 4)) (aCons (bFz (bOp addD (bV 5) (bCall F__law_take (aCons (bV 0) (aCons (bFz (bC (.int 3))) (aNil)))))) (aNil)))))) (aNil))))) (sNx))
    (sSeq (sIf (bT (bOp eqD (bV 1) (bC (.int 4)))) (sSet 3 (bFn tupleD (aCons (bComp (iRange1 (bV 4)) [9] (bName 9) (bYes) (bCall F__law_drawn (aCons (bV 0) (aCons (bFz (bV 4)) (aCons (bFz (bC (.int 4))) (aNil)))))) (aNil)))) (sNx))
    (sSeq (sIf (bT (bOp eqD (bV 1) (bC (.int 5)))) (sSet 3 (bFn tupleD (aCons (bComp (iTpl (bOp ixD (bLstE (aCons (bFz (bTupE (aCons (bFz (bC (.str [98]))) (aCons (bFz (bC (.str [97]))) (aNil))))) (aCons (bFz (bTupE (aCons (bFz (bC (.str [98]))) (aCons (bFz (bC (.str [99]))) (aCons (bFz (bC (.str [97]))) (aNil)))))) (aCons (bFz (bTupE (aCons (bFz (bC (.str [100]))) (aCons (bFz (bC (.str [98]))) (aCons (bFz (bC (.str [99]))) (aCons (bFz (bC (.str [97]))) (aNil))))))) (aNil))))) (bFn maxD (aCons (bC (.int 0)) (aCons (bOp subD (bFn lenD (aCons (bV 3) (aNil))) (bC (.int 2))) (aNil)))))) [10] (bName 10) (bYes) (bCall F__law_image (aCons (bFz (bV 3)) (aCons (bFz (bV 10)) (aNil))))) (aNil)))) (sNx))
    (sSeq (sIf (bT (bOp inD (bV 1) (bTupE (aCons (bFz (bC (.int 6))) (aCons (bFz (bC (.int 7))) (aNil)))))) (sSeq (sSet 6 (bCall F__law_take (aCons (bV 0) (aCons (bFz (bFn lenD (aCons (bV 3) (aNil)))) (aNil)))))
    (sSet 3 (bOp addD (bOp addD (bSl (bV 3) (oNone) (oSome (bV 6))) (bTupE (aCons (bFz (bCall F__law_near (aCons (bV 0) (aCons (bFz (bOp ixD (bV 3) (bV 6))) (aCons (bFz (bFn lenD (aCons (bV 3) (aNil)))) (aNil)))))) (aNil)))) (bSl (bV 3) (oSome (bOp addD (bV 6) (bC (.int 1)))) (oNone))))) (sNx))
    (sSeq (sSet 3 (bFn tupleD (aCons (bComp (iTpl (bV 3)) [10] (bName 10) (bYes) (bSl (bV 10) (oNone) (oSome (bC (.int 12))))) (aNil))))
    (sSeq (sSet 7 (bSl (bC (.str [97, 98, 99, 100])) (oNone) (oSome (bFn lenD (aCons (bV 3) (aNil))))))
    (sSeq (sSet 3 (bFn tupleD (aCons (bComp (iTpl (bV 3)) [10] (bName 10) (bYes) (bMt joinD (bC (.str [])) (aCons (bComp (iTxt (bV 10)) [9] (bName 9) (bT (bOp inD (bV 9) (bV 7))) (bV 9)) (aNil)))) (aNil))))
    (sSeq (sSet 8 (bFn minD (aCons (bComp (iTpl (bV 3)) [10] (bName 10) (bYes) (bFn lenD (aCons (bV 10) (aNil)))) (aNil))))
    (sRet (bFn tupleD (aCons (bComp (iTpl (bV 3)) [10] (bName 10) (bYes) (bSl (bV 10) (oNone) (oSome (bOp mulD (bC (.int 4)) (bV 8))))) (aNil))))))))))))))))
def F__law_images : Fx := runB 11 1 B__law_images
theorem fok__law_images (T : Tx K mg) (f : Addr) (fd : FuncData) (F : Fun K "_law_images" "_law_images" s__law_images f fd) : FnOk P w K mg base CX0 4 f fd ["box"] (spV K F__law_images) := fn_ok (N := N__law_images) (body := B__law_images) F sc__law_images rfl fun cdv A outer s H E hr =>
    (bv_cons (sv_n 1 sc__law_images.nd (ev_call (ok__law_take T) (hr.mono (by decide)) (av_cons (ev_n 0) (av_cons (ev_fz ev_int) av_nil))))
    (bv_cons (sv_n 2 sc__law_images.nd (ev_lstE (av_cons (ev_fz (ev_tupE (av_cons (ev_fz (ev_str (l := [97, 98, 99, 97, 98]) (by decide +kernel))) (av_cons (ev_fz (ev_str (l := [97, 99, 97, 98, 99, 98]) (by decide +kernel))) (av_cons (ev_fz (ev_str (l := [97, 99, 98, 99, 97, 99, 98]) (by decide +kernel))) av_nil))))) (av_cons (ev_fz (ev_tupE (av_cons (ev_fz (ev_str (l := [97, 98, 99, 98, 97, 99, 98, 99, 97, 98, 99, 98, 97]) (by decide +kernel))) (av_cons (ev_fz (ev_str (l := [98, 99, 97, 99, 98, 97, 99, 97, 98, 99, 97, 99, 98]) (by decide +kernel))) (av_cons (ev_fz (ev_str (l := [99, 97, 98, 97, 99, 98, 97, 98, 99, 97, 98, 97, 99]) (by decide +kernel))) av_nil))))) (av_cons (ev_fz (ev_tupE (av_cons (ev_fz (ev_str (l := [97, 98, 99]) (by decide +kernel))) (av_cons (ev_fz (ev_str (l := [98, 99, 97]) (by decide +kernel))) (av_cons (ev_fz (ev_str (l := [99, 97, 98]) (by decide +kernel))) av_nil))))) (av_cons (ev_fz (ev_tupE (av_cons (ev_fz (ev_str (l := [97, 98, 97, 99, 97, 98, 99, 97, 99, 98, 97, 98, 99, 98, 97, 99]) (by decide +kernel))) (av_cons (ev_fz (ev_str (l := [97]) (by decide +kernel))) (av_cons (ev_fz (ev_str (l := [98]) (by decide +kernel))) av_nil))))) (av_cons (ev_fz (ev_tupE (av_cons (ev_fz (ev_str (l := [97, 98, 99, 97, 99, 98, 97, 98, 99, 98]) (by decide +kernel))) (av_cons (ev_fz (ev_str (l := [97, 98, 99, 98, 97, 99, 97, 98, 99, 98]) (by decide +kernel))) (av_cons (ev_fz (ev_str (l := [97, 98, 99, 98, 97, 99, 98, 99, 97, 99]) (by decide +kernel))) av_nil))))) (av_cons (ev_fz (ev_tupE (av_cons (ev_fz (ev_str (l := [98]) (by decide +kernel))) (av_cons (ev_fz (ev_str (l := [99]) (by decide +kernel))) (av_cons (ev_fz (ev_str (l := [97]) (by decide +kernel))) av_nil))))) (av_cons (ev_fz (ev_tupE (av_cons (ev_fz (ev_str (l := [97, 98, 99, 100]) (by decide +kernel))) (av_cons (ev_fz (ev_str (l := [98, 97, 100, 99]) (by decide +kernel))) (av_cons (ev_fz (ev_str (l := [99, 100, 97, 98]) (by decide +kernel))) (av_cons (ev_fz (ev_str (l := [100, 99, 98, 97]) (by decide +kernel))) av_nil)))))) (av_cons (ev_fz (ev_tupE (av_cons (ev_fz (ev_str (l := [97, 98, 99, 98]) (by decide +kernel))) (av_cons (ev_fz (ev_str (l := [97, 99, 98, 99]) (by decide +kernel))) av_nil)))) (av_cons (ev_fz (ev_tupE (av_cons (ev_fz (ev_str (l := [97, 98, 97, 99, 98]) (by decide +kernel))) (av_cons (ev_fz (ev_str (l := [97, 98, 99, 97, 99, 98]) (by decide +kernel))) av_nil)))) av_nil)))))))))))
    (bv_cons (sv_n 3 sc__law_images.nd (ev_item (fun _ _ => rfl) (ev_n 2) (ev_call (ok__law_take T) (hr.mono (by decide)) (av_cons (ev_n 0) (av_cons (ev_fz (ev_fn call_len fnd_len rfl T.b_len PySem.boot_len (av_cons (ev_n 2) av_nil))) av_nil)))))
    (bv_cons (sv_n 4 sc__law_images.nd (ev_add ev_int (ev_call (ok__law_take T) (hr.mono (by decide)) (av_cons (ev_n 0) (av_cons (ev_fz ev_int) av_nil)))))
    (bv_cons (sv_if (tv_cmp (op_eqX (hr.units)) opd_eq (nomark _) (ev_n 1) ev_int) (bv_one (sv_n 3 sc__law_images.nd (ev_mulT (ev_tupE (av_cons (ev_fz (ev_str (l := []) (by decide +kernel))) av_nil)) (ev_n 4)))) bv_nil)
    (bv_cons (sv_if (tv_cmp op_inX opd_in (by rfl) (ev_n 1) (ev_tupE (av_cons (ev_fz ev_int) (av_cons (ev_fz ev_int) (av_cons (ev_fz ev_int) av_nil))))) (bv_cons (sv_n 5 sc__law_images.nd (ev_add ev_int (ev_call (ok__law_take T) (hr.mono (by decide)) (av_cons (ev_n 0) (av_cons (ev_fz ev_int) av_nil)))))
    (bv_one (sv_n 3 sc__law_images.nd (ev_ty call_tuple_of fnd_tuple rfl T.b_tuple PyProof.Rows.boot_tuple (av_cons (ev_comp (own := [("letter", 9)]) rfl sc__law_images.nd (blkOk_by (N := N__law_images) (sc := defScope s__law_images) (by decide +kernel)) (iv_range1 rfl T.b_range (ev_n 4)) (fun _ _ _ _ _ => (gv_n 9 sc__law_images.nd)) (fun _ _ _ _ _ => tsv_nil) (fun _ _ _ _ _ => (ev_call (ok__law_free T) (hr.mono (by decide)) (av_cons (ev_n 0) (av_cons (ev_fz (ev_n 4)) (av_cons (ev_fz (ev_add (ev_n 5) (ev_call (ok__law_take T) (hr.mono (by decide)) (av_cons (ev_n 0) (av_cons (ev_fz ev_int) av_nil))))) av_nil)))))) av_nil))))) bv_nil)
    (bv_cons (sv_if (tv_cmp (op_eqX (hr.units)) opd_eq (nomark _) (ev_n 1) ev_int) (bv_one (sv_n 3 sc__law_images.nd (ev_ty call_tuple_of fnd_tuple rfl T.b_tuple PyProof.Rows.boot_tuple (av_cons (ev_comp (own := [("letter", 9)]) rfl sc__law_images.nd (blkOk_by (N := N__law_images) (sc := defScope s__law_images) (by decide +kernel)) (iv_range1 rfl T.b_range (ev_n 4)) (fun _ _ _ _ _ => (gv_n 9 sc__law_images.nd)) (fun _ _ _ _ _ => tsv_nil) (fun _ _ _ _ _ => (ev_call (ok__law_drawn T) (hr.mono (by decide)) (av_cons (ev_n 0) (av_cons (ev_fz (ev_n 4)) (av_cons (ev_fz ev_int) av_nil)))))) av_nil)))) bv_nil)
    (bv_cons (sv_if (tv_cmp (op_eqX (hr.units)) opd_eq (nomark _) (ev_n 1) ev_int) (bv_one (sv_n 3 sc__law_images.nd (ev_ty call_tuple_of fnd_tuple rfl T.b_tuple PyProof.Rows.boot_tuple (av_cons (ev_comp (own := [("word", 10)]) rfl sc__law_images.nd (blkOk_by (N := N__law_images) (sc := defScope s__law_images) (by decide +kernel)) (iv_tup (ev_item (fun _ _ => rfl) (ev_lstE (av_cons (ev_fz (ev_tupE (av_cons (ev_fz (ev_str (l := [98]) (by decide +kernel))) (av_cons (ev_fz (ev_str (l := [97]) (by decide +kernel))) av_nil)))) (av_cons (ev_fz (ev_tupE (av_cons (ev_fz (ev_str (l := [98]) (by decide +kernel))) (av_cons (ev_fz (ev_str (l := [99]) (by decide +kernel))) (av_cons (ev_fz (ev_str (l := [97]) (by decide +kernel))) av_nil))))) (av_cons (ev_fz (ev_tupE (av_cons (ev_fz (ev_str (l := [100]) (by decide +kernel))) (av_cons (ev_fz (ev_str (l := [98]) (by decide +kernel))) (av_cons (ev_fz (ev_str (l := [99]) (by decide +kernel))) (av_cons (ev_fz (ev_str (l := [97]) (by decide +kernel))) av_nil)))))) av_nil)))) (ev_fn (CallR_or (call_max2 rfl) (cr_max rfl)) fnd_max rfl T.b_max PyProof.Rows.boot_max (av_cons ev_int (av_cons (ev_sub (ev_fn call_len fnd_len rfl T.b_len PySem.boot_len (av_cons (ev_n 3) av_nil)) ev_int) av_nil))))) (fun _ _ _ _ _ => (gv_n 10 sc__law_images.nd)) (fun _ _ _ _ _ => tsv_nil) (fun _ _ _ _ _ => (ev_call (ok__law_image T) (hr.mono (by decide)) (av_cons (ev_fz (ev_n 3)) (av_cons (ev_fz (ev_n 10)) av_nil))))) av_nil)))) bv_nil)
    (bv_cons (sv_if (tv_cmp op_inX opd_in (by rfl) (ev_n 1) (ev_tupE (av_cons (ev_fz ev_int) (av_cons (ev_fz ev_int) av_nil)))) (bv_cons (sv_n 6 sc__law_images.nd (ev_call (ok__law_take T) (hr.mono (by decide)) (av_cons (ev_n 0) (av_cons (ev_fz (ev_fn call_len fnd_len rfl T.b_len PySem.boot_len (av_cons (ev_n 3) av_nil))) av_nil))))
    (bv_one (sv_n 3 sc__law_images.nd (ev_add (ev_add (ev_slice (ev_n 3) ov_none (ov_some (ev_n 6))) (ev_tupE (av_cons (ev_fz (ev_call (ok__law_near T) (hr.mono (by decide)) (av_cons (ev_n 0) (av_cons (ev_fz (ev_item (fun _ _ => rfl) (ev_n 3) (ev_n 6))) (av_cons (ev_fz (ev_fn call_len fnd_len rfl T.b_len PySem.boot_len (av_cons (ev_n 3) av_nil))) av_nil))))) av_nil))) (ev_slice (ev_n 3) (ov_some (ev_add (ev_n 6) ev_int)) ov_none))))) bv_nil)
    (bv_cons (sv_n 3 sc__law_images.nd (ev_ty call_tuple_of fnd_tuple rfl T.b_tuple PyProof.Rows.boot_tuple (av_cons (ev_comp (own := [("word", 10)]) rfl sc__law_images.nd (blkOk_by (N := N__law_images) (sc := defScope s__law_images) (by decide +kernel)) (iv_tup (ev_n 3)) (fun _ _ _ _ _ => (gv_n 10 sc__law_images.nd)) (fun _ _ _ _ _ => tsv_nil) (fun _ _ _ _ _ => (ev_slice (ev_n 10) ov_none (ov_some ev_int)))) av_nil)))
    (bv_cons (sv_n 7 sc__law_images.nd (ev_slice (ev_str (l := [97, 98, 99, 100]) (by decide +kernel)) ov_none (ov_some (ev_fn call_len fnd_len rfl T.b_len PySem.boot_len (av_cons (ev_n 3) av_nil)))))
    (bv_cons (sv_n 3 sc__law_images.nd (ev_ty call_tuple_of fnd_tuple rfl T.b_tuple PyProof.Rows.boot_tuple (av_cons (ev_comp (own := [("word", 10)]) rfl sc__law_images.nd (blkOk_by (N := N__law_images) (sc := defScope s__law_images) (by decide +kernel)) (iv_tup (ev_n 3)) (fun _ _ _ _ _ => (gv_n 10 sc__law_images.nd)) (fun _ _ _ _ _ => tsv_nil) (fun _ _ _ _ _ => (ev_join (ev_str (l := []) (by decide +kernel)) (av_cons (ev_comp (own := [("letter", 9)]) rfl sc__law_images.nd (blkOk_by (by kernel_rfl)) (iv_txt (ev_n 10)) (fun _ _ _ _ _ => (gv_n 9 sc__law_images.nd)) (fun _ _ _ _ _ => tsv_one (tv_cmp op_inX opd_in (by rfl) (ev_n 9) (ev_n 7))) (fun _ _ _ _ _ => (ev_n 9))) av_nil)))) av_nil)))
    (bv_cons (sv_n 8 sc__law_images.nd (ev_fn (CallR_or (call_min2 rfl) (cr_min rfl)) fnd_min rfl T.b_min PyProof.Rows.boot_min (av_cons (ev_comp (own := [("word", 10)]) rfl sc__law_images.nd (blkOk_by (N := N__law_images) (sc := defScope s__law_images) (by decide +kernel)) (iv_tup (ev_n 3)) (fun _ _ _ _ _ => (gv_n 10 sc__law_images.nd)) (fun _ _ _ _ _ => tsv_nil) (fun _ _ _ _ _ => (ev_fn call_len fnd_len rfl T.b_len PySem.boot_len (av_cons (ev_n 10) av_nil)))) av_nil)))
    (bv_one (sv_ret (ev_ty call_tuple_of fnd_tuple rfl T.b_tuple PyProof.Rows.boot_tuple (av_cons (ev_comp (own := [("word", 10)]) rfl sc__law_images.nd (blkOk_by (N := N__law_images) (sc := defScope s__law_images) (by decide +kernel)) (iv_tup (ev_n 3)) (fun _ _ _ _ _ => (gv_n 10 sc__law_images.nd)) (fun _ _ _ _ _ => tsv_nil) (fun _ _ _ _ _ => (ev_slice (ev_n 10) ov_none (ov_some (ev_mul ev_int (ev_n 8)))))) av_nil)))))))))))))))))
theorem ok__law_images (T : Tx K mg) : DefOk P w K mg base "_law_images" 4 ["box"] F__law_images := def_of T.d__law_images (fok__law_images T) (fun _ _ _ _ _ _ us hl => match us, hl with | [_], _ => rfl)
abbrev s_law : Stmt := topS 40
abbrev N_law : List Str := ["script", "k", "box", "by_name", "turn", "images", "due", "told", "one", "word"]
theorem sc_law : FnScope N_law ["script"] (defScope s_law) := ⟨rfl, rfl, rfl, by decide +kernel, rfl, by decide +kernel, by decide +kernel⟩
def B_law : Sx := sSeq (sFor (iRange1 (bFn maxD (aCons (bC (.int 2)) (aCons (bFn minD (aCons (bC (.int 3)) (aCons (bFn lenD (aCons (bV 0) (aNil))) (aNil)))) (aNil))))) (bName 1) (sSeq (sSet 2 (bCall F__law_box (aCons (bFz (bCall F__law_cell (aCons (bFz (bV 0)) (aCons (bFz (bV 1)) (aNil))))) (aNil))))
    (sSeq (sSet 3 (bOp eqD (bCall F__law_take (aCons (bV 2) (aCons (bFz (bC (.int 2))) (aNil)))) (bC (.int 1))))
    (sSeq (sFor (iRange1 (bC (.int 4))) (bName 4) (sSeq (sSet 5 (bCall F__law_images (aCons (bV 2) (aNil))))
    (sSeq (sSet 6 (bCall F__law_break (aCons (bFz (bV 5)) (aNil))))
    (sSeq (sSet 7 (bLstE (aCons (bFz (bIf (bT (bV 3)) (bCall F_square_break (aCons (bFz (bMk "Morphism" 1 g_Morphism (aCons (bFz (bV 5)) (aNil)))) (aNil))) (bCall F_square_break (aCons (bFz (bMk "Morphism" 1 g_Morphism (aCons (bFz (bV 5)) (aNil)))) (aNil))))) (aCons (bFz (bCall F_square_break (aCons (bFz (bMk "Morphism" 1 g_Morphism (aCons (bFz (bV 5)) (aNil)))) (aNil)))) (aNil)))))
    (sSeq (sIf (bNot (bT (bCall (F__law_same 3) (aCons (bFz (bV 7)) (aCons (bFz (bLstE (aCons (bFz (bV 6)) (aCons (bFz (bV 6)) (aNil))))) (aNil)))))) (sRet (bC (.bl false))) (sNx))
    (sSeq (sIf (bAnd (bT (bOp isnD (bV 6) (bC .non))) (bOr (bT (bCall F__law_has_square (aCons (bFz (bOp ixD (bV 7) (bC (.int 0)))) (aNil)))) (bNot (bT (bCall F__law_has_square (aCons (bFz (bCall F__law_image (aCons (bFz (bV 5)) (aCons (bFz (bOp ixD (bV 7) (bC (.int 0)))) (aNil))))) (aNil))))))) (sRet (bC (.bl false))) (sNx))
    (sSet 3 (bNotV (bV 3)))))))))
    (sSeq (sSet 8 (bOp ixD (bLstE (aCons (bFz (bTupE (aCons (bFz (bC (.str [98]))) (aCons (bFz (bC (.str [99]))) (aCons (bFz (bC (.str [97]))) (aNil)))))) (aCons (bFz (bTupE (aCons (bFz (bC (.str [99]))) (aCons (bFz (bC (.str [97]))) (aCons (bFz (bC (.str [98]))) (aNil)))))) (aCons (bFz (bTupE (aCons (bFz (bC (.str [98]))) (aCons (bFz (bC (.str [97]))) (aNil))))) (aNil))))) (bCall F__law_take (aCons (bV 2) (aCons (bFz (bC (.int 3))) (aNil))))))
    (sIf (bOr (bT (bOp isnD (bCall F_square_break (aCons (bFz (bMk "Morphism" 1 g_Morphism (aCons (bFz (bV 8)) (aNil)))) (aNil))) (bC .non))) (bT (bOp isnD (bCall F_square_break (aCons (bFz (bMk "Morphism" 1 g_Morphism (aCons (bFz (bFn tupleD (aCons (bComp (iTpl (bV 8)) [9] (bName 9) (bYes) (bCall F__law_image (aCons (bFz (bV 8)) (aCons (bFz (bV 9)) (aNil))))) (aNil)))) (aNil)))) (aNil))) (bC .non)))) (sRet (bC (.bl false))) (sNx)))))))
    (sRet (bC (.bl true)))
def F_law : Fx := runB 10 1 B_law
theorem fok_law (T : Tx K mg) (f : Addr) (fd : FuncData) (F : Fun K "law" "law" s_law f fd) : FnOk P w K mg base CX0 6 f fd ["script"] (spV K F_law) := fn_ok (N := N_law) (body := B_law) F sc_law rfl fun cdv A outer s H E hr =>
    (bv_cons (sv_for PassesOwn.never rfl (iv_range1 rfl T.b_range (ev_fn (CallR_or (call_max2 rfl) (cr_max rfl)) fnd_max rfl T.b_max PyProof.Rows.boot_max (av_cons ev_int (av_cons (ev_fn (CallR_or (call_min2 rfl) (cr_min rfl)) fnd_min rfl T.b_min PyProof.Rows.boot_min (av_cons ev_int (av_cons (ev_fn call_len fnd_len rfl T.b_len PySem.boot_len (av_cons (ev_n 0) av_nil)) av_nil))) av_nil)))) (gv_n 1 sc_law.nd) (bv_cons (sv_n 2 sc_law.nd (ev_call (ok__law_box T) (hr.mono (by decide)) (av_cons (ev_fz (ev_call (ok__law_cell T) (hr.mono (by decide)) (av_cons (ev_fz (ev_n 0)) (av_cons (ev_fz (ev_n 1)) av_nil)))) av_nil)))
    (bv_cons (sv_n 3 sc_law.nd (ev_cmp (op_eqX (hr.units)) opd_eq (nomark _) (ev_call (ok__law_take T) (hr.mono (by decide)) (av_cons (ev_n 2) (av_cons (ev_fz ev_int) av_nil))) ev_int))
    (bv_cons (sv_for PassesOwn.never rfl (iv_range1 rfl T.b_range ev_int) (gv_n 4 sc_law.nd) (bv_cons (sv_n 5 sc_law.nd (ev_call (ok__law_images T) (hr.mono (by decide)) (av_cons (ev_n 2) av_nil)))
    (bv_cons (sv_n 6 sc_law.nd (ev_call (ok__law_break T) (hr.mono (by decide)) (av_cons (ev_fz (ev_n 5)) av_nil)))
    (bv_cons (sv_n 7 sc_law.nd (ev_lstE (av_cons (ev_fz (ev_ifE (tv_val (ev_n 3)) (ev_callK0 (okk_square_break T) (hr.mono (by decide)) (kv_cons (ev_fz (ev_make (nm := "Morphism") (mk_Morphism T) (hr.mono (by decide)) (av_cons (ev_fz (ev_n 5)) av_nil))) kv_nil)) (ev_call (ok_square_break T) (hr.mono (by decide)) (av_cons (ev_fz (ev_make (nm := "Morphism") (mk_Morphism T) (hr.mono (by decide)) (av_cons (ev_fz (ev_n 5)) av_nil))) av_nil)))) (av_cons (ev_fz (ev_call (ok_square_break T) (hr.mono (by decide)) (av_cons (ev_fz (ev_make (nm := "Morphism") (mk_Morphism T) (hr.mono (by decide)) (av_cons (ev_fz (ev_n 5)) av_nil))) av_nil))) av_nil))))
    (bv_cons (sv_if (tv_not (tv_val (ev_call (ok__law_same T 3) (hr.mono (by decide)) (av_cons (ev_fz (ev_n 7)) (av_cons (ev_fz (ev_lstE (av_cons (ev_fz (ev_n 6)) (av_cons (ev_fz (ev_n 6)) av_nil)))) av_nil))))) (bv_one (sv_ret ev_bl)) bv_nil)
    (bv_cons (sv_if (tv_w (wv_and (tv_cmp op_isnX opd_isn (nomark _) (ev_n 6) ev_non) (wv_one_and (tv_w (wv_or (tv_val (ev_call (ok__law_has_square T) (hr.mono (by decide)) (av_cons (ev_fz (ev_item (fun _ _ => rfl) (ev_n 7) ev_int)) av_nil))) (wv_one_or (tv_not (tv_val (ev_call (ok__law_has_square T) (hr.mono (by decide)) (av_cons (ev_fz (ev_call (ok__law_image T) (hr.mono (by decide)) (av_cons (ev_fz (ev_n 5)) (av_cons (ev_fz (ev_item (fun _ _ => rfl) (ev_n 7) ev_int)) av_nil)))) av_nil)))))))))) (bv_one (sv_ret ev_bl)) bv_nil)
    (bv_one (sv_n 3 sc_law.nd (ev_not (ev_n 3))))))))))
    (bv_cons (sv_n 8 sc_law.nd (ev_item (fun _ _ => rfl) (ev_lstE (av_cons (ev_fz (ev_tupE (av_cons (ev_fz (ev_str (l := [98]) (by decide +kernel))) (av_cons (ev_fz (ev_str (l := [99]) (by decide +kernel))) (av_cons (ev_fz (ev_str (l := [97]) (by decide +kernel))) av_nil))))) (av_cons (ev_fz (ev_tupE (av_cons (ev_fz (ev_str (l := [99]) (by decide +kernel))) (av_cons (ev_fz (ev_str (l := [97]) (by decide +kernel))) (av_cons (ev_fz (ev_str (l := [98]) (by decide +kernel))) av_nil))))) (av_cons (ev_fz (ev_tupE (av_cons (ev_fz (ev_str (l := [98]) (by decide +kernel))) (av_cons (ev_fz (ev_str (l := [97]) (by decide +kernel))) av_nil)))) av_nil)))) (ev_call (ok__law_take T) (hr.mono (by decide)) (av_cons (ev_n 2) (av_cons (ev_fz ev_int) av_nil)))))
    (bv_one (sv_if (tv_w (wv_or (tv_cmp op_isnX opd_isn (nomark _) (ev_call (ok_square_break T) (hr.mono (by decide)) (av_cons (ev_fz (ev_make (nm := "Morphism") (mk_Morphism T) (hr.mono (by decide)) (av_cons (ev_fz (ev_n 8)) av_nil))) av_nil)) ev_non) (wv_one_or (tv_cmp op_isnX opd_isn (nomark _) (ev_call (ok_square_break T) (hr.mono (by decide)) (av_cons (ev_fz (ev_make (nm := "Morphism") (mk_Morphism T) (hr.mono (by decide)) (av_cons (ev_fz (ev_ty call_tuple_of fnd_tuple rfl T.b_tuple PyProof.Rows.boot_tuple (av_cons (ev_comp (own := [("word", 9)]) rfl sc_law.nd (blkOk_by (N := N_law) (sc := defScope s_law) (by decide +kernel)) (iv_tup (ev_n 8)) (fun _ _ _ _ _ => (gv_n 9 sc_law.nd)) (fun _ _ _ _ _ => tsv_nil) (fun _ _ _ _ _ => (ev_call (ok__law_image T) (hr.mono (by decide)) (av_cons (ev_fz (ev_n 8)) (av_cons (ev_fz (ev_n 9)) av_nil))))) av_nil))) av_nil))) av_nil)) ev_non)))) (bv_one (sv_ret ev_bl)) bv_nil)))))))
    (bv_one (sv_ret ev_bl)))
end
end K52
namespace K52
open PySem PySem.Spec PyProof.Rows L2 TL M
def Box (n : Nat) (b : List D) : Prop := ∃ (z : Int) (g : Bool) (r c : Int), b = [.int z, .bl g, .int r, .int c] ∧ 0 ≤ z ∧ 0 ≤ r ∧ r < 2147483629 ∧ 0 ≤ c ∧ c ≤ n
theorem Box.mono {n m : Nat} {b : List D} (h : Box n b) (hm : n ≤ m) : Box m b := by
  obtain ⟨z, g, r, c, e, h2, h3, h4, h5, h6⟩ := h
  exact ⟨z, g, r, c, e, h2, h3, h4, h5, by omega⟩
theorem take_ok {n : Nat} {b : List D} {m : Int} {Q : RV → List SV → Prop} (hb : Box n b) (hn : n ≤ 1000000000) (h0 : 0 < m) (h1 : m < 1073741824) (h : ∀ v b', Box (n + 1) b' → 0 ≤ v → v < m → Q (.d (.int v)) [.own true b', .d (.int m)]) : wF F__law_take [.own true b, .d (.int m)] Q := by
  obtain ⟨z, g, r, c, rfl, h2, h3, h4, h5, h6⟩ := hb
  unfold F__law_take
  rw [wF_run]
  unfold B__law_take
  have a1 : (r + 15485867 * (c + 1) + 179424691).natAbs < 18446744073709551616 := by omega
  have a2 : ((r + 15485867 * (c + 1) + 179424691) ^ 5 % 2147483647 * 48271 + 104743 * (c + 1)).natAbs < 18446744073709551616 := by
    generalize (r + 15485867 * (c + 1) + 179424691) ^ 5 = t
    omega
  have h6' : c + 1 ≤ ((n + 1 : Nat) : Int) := by omega
  have hm1 : ∀ t : Int, 0 ≤ t % m := fun t => Int.emod_nonneg _ (by omega)
  have hm2 : ∀ t : Int, t % m < m := fun t => Int.emod_lt_of_pos _ h0
  simp [h0, h1, a1, a2]
  split
  · split
    · exact h _ _ ⟨_, _, _, _, rfl, Int.ediv_nonneg h2 (by omega), h3, h4, h5, by omega⟩ (hm1 _) (hm2 _)
    · exact h _ _ ⟨_, _, _, _, rfl, h2, h3, h4, by omega, h6'⟩ (hm1 _) (hm2 _)
  · exact h _ _ ⟨_, _, _, _, rfl, h2, h3, h4, by omega, h6'⟩ (hm1 _) (hm2 _)
theorem box_ok {x : Int} {Q : RV → List SV → Prop} (h : ∀ b, Box 0 b → Q (.own b) [.d (.int x)]) : wF F__law_box [.d (.int x)] Q := by
  unfold F__law_box
  rw [wF_run]
  unfold B__law_box
  simp
  exact h _ ⟨_, _, _, _, rfl, by split <;> omega, by omega, by omega, by omega, by omega⟩
theorem cell_ok {ns : List Int} {k : Nat} (hk : k < 1000) {Q : RV → List SV → Prop} (h : ∀ x, Q (.d (.int x)) [.d (.scr (ns.map .int)), .d (.int k)]) : wF F__law_cell [.d (.scr (ns.map .int)), .d (.int k)] Q := by
  unfold F__law_cell
  rw [wF_run]
  unfold B__law_cell
  simp
  split
  · rename_i hl
    rw [atI_nat (by simpa using hl)]
    simp [h]
  · rw [cutL_to (by omega), ← List.map_take, sumD_lst]
    simp [h]
theorem abcd_at {v : Int} (h0 : 0 ≤ v) (h1 : v < 4) : ∃ c : Nat, atI [97, 98, 99, 100] v = some c ∧ c ∈ [97, 98, 99, 100] := by
  have : v = 0 ∨ v = 1 ∨ v = 2 ∨ v = 3 := by omega
  rcases this with rfl | rfl | rfl | rfl
  · exact ⟨97, by simp, by simp⟩
  · exact ⟨98, by simp, by simp⟩
  · exact ⟨99, by simp, by simp⟩
  · exact ⟨100, by simp, by simp⟩
theorem sum_signs (cs : List Nat) : ((cs.map fun c => [c]).map (·.length)).sum = cs.length := by
  induction cs with
  | nil => rfl
  | cons c cs ih => simp at ih ⊢; omega
theorem flat_signs (cs : List Nat) : (cs.map fun c => [c]).flatten = cs := by
  induction cs with
  | nil => rfl
  | cons c cs ih => simp at ih ⊢; exact ih
theorem join_signs {cs : List Nat} (h : cs.length ≤ 16777216) : joinD [] [.lst (cs.map fun c => .str [c])] = some (.d (.str cs)) := by
  have e := joinD_lst (cs.map fun c => [c]) (by rw [sum_signs]; exact h)
  rw [flat_signs] at e
  rw [← e, List.map_map]
  rfl
theorem drawn_ok {n : Nat} {b : List D} {m k : Nat} {Q : RV → List SV → Prop} (hb : Box n b) (hn : n + 1000 ≤ 1000000000) (h0 : 0 < m) (h1 : m ≤ 4) (hk : k ≤ 900) (h : ∀ w b', Box (n + 1000) b' → w.length ≤ k → Q (.d (.str w)) [.own true b', .d (.int m), .d (.int k)]) : wF F__law_drawn [.own true b, .d (.int m), .d (.int k)] Q := by
  unfold F__law_drawn
  rw [wF_run]
  unfold B__law_drawn
  simp
  refine take_ok hb (by omega) (by omega) (by omega) fun v b1 hb1 hv0 hv1 => ?_
  simp [noOwn, wipeS, restS]
  refine ⟨by omega, wC_inv (fun i acc ρ => ∃ b2 cs, Box (n + 1 + i) b2 ∧ acc = cs.map (fun c => D.str [c]) ∧ cs.length = i ∧ ρ = [some (.own true b2), some (.d (.int m)), some (.d (.int k)), none]) (k := 0) ⟨b1, [], hb1, rfl, rfl, rfl⟩ (fun i x acc ρ hx hP => ?_) fun acc ρ hP => ?_⟩
  · obtain ⟨b2, cs, hb2, rfl, hl, rfl⟩ := hP
    obtain ⟨hi, rfl⟩ := range_at hx
    simp
    refine take_ok hb2 (by omega) (by omega) (by omega) fun u b3 hb3 hu0 hu1 => ?_
    simp
    obtain ⟨c, hc, _⟩ := abcd_at hu0 (by omega)
    rw [hc]
    simp [wipeS]
    exact ⟨by omega, b3, hb3.mono (by omega), cs ++ [c], by simp, by simp at hl; simp; omega, rfl⟩
  · obtain ⟨b2, cs, hb2, rfl, hl, rfl⟩ := hP
    simp at hl
    simp
    rw [join_signs (by omega)]
    simp
    exact h cs b2 (hb2.mono (by simp; omega)) (by omega)
theorem near_ok {n : Nat} {b : List D} {w : List Nat} {m : Nat} {Q : RV → List SV → Prop} (hb : Box n b) (hn : n + 3 ≤ 1000000000) (h0 : 0 < m) (h1 : m ≤ 4) (hw : w.length ≤ 1000) (h : ∀ u b', Box (n + 3) b' → u.length ≤ w.length + 1 → Q (.d (.str u)) [.own true b', .d (.str w), .d (.int m)]) : wF F__law_near [.own true b, .d (.str w), .d (.int m)] Q := by
  unfold F__law_near
  rw [wF_run]
  unfold B__law_near
  simp
  refine ⟨by omega, take_ok hb (by omega) (by omega) (by omega) fun v b1 hb1 hv0 hv1 => ?_⟩
  simp
  refine take_ok hb1 (by omega) (by omega) (by omega) fun v2 b2 hb2 h20 h21 => ?_
  simp
  refine take_ok hb2 (by omega) (by omega) (by omega) fun u b3 hb3 hu0 hu1 => ?_
  simp
  obtain ⟨c, hc, _⟩ := abcd_at hu0 (by omega)
  rw [hc]
  simp [cutL_to hv0, cutL_from hv0, cutL_from (show 0 ≤ v + 1 by omega), cutL_from (show 0 ≤ v + 2 by omega), cutL_both hv0 (show 0 ≤ v + 1 by omega), cutL_both (show 0 ≤ v + 1 by omega) (show 0 ≤ v + 2 by omega)]
  have hQ : ∀ u, u.length ≤ w.length + 1 → Q (.d (.str u)) [.own true b3, .d (.str w), .d (.int m)] := fun u hu => h u b3 hb3 hu
  repeat' split
  all_goals and_intros
  all_goals first | omega | exact hQ _ (by simp; omega) | exact hQ _ (by simp)
theorem mixed_ok {n : Nat} {b : List D} {m : Nat} {Q : RV → List SV → Prop} (hb : Box n b) (hn : n + 10 ≤ 1000000000) (h1 : m ≤ 4) (h : ∀ (ks : List Nat) b', Box (n + 10) b' → ks.length = m → (∀ k ∈ ks, k < m) → Q (.own (ks.map fun (k : Nat) => D.int (k : Int))) [.own true b', .d (.int m)]) : wF F__law_mixed [.own true b, .d (.int m)] Q := by
  unfold F__law_mixed
  rw [wF_run]
  unfold B__law_mixed
  simp
  refine ⟨by omega, wW_inv (fun k ρ => ∃ b2 ls fs, Box (n + (m - k)) b2 ∧ ls.length = k ∧ k ≤ m ∧ fs.length = m - k ∧ (∀ k ∈ ls, k < m) ∧ (∀ k ∈ fs, k < m) ∧ ρ = [some (.own true b2), some (.d (.int m)), some (.own false (ls.map fun (k : Nat) => D.int (k : Int))), some (.own false (fs.map fun (k : Nat) => D.int (k : Int)))]) (k := m) (by omega) ⟨b, List.range m, [], by simpa using hb, by simp, by simp, by simp, by simp, by simp, by simp⟩ fun k ρ hP => ?_⟩
  obtain ⟨b2, ls, fs, hb2, hl, hk, hf, h3, h4, rfl⟩ := hP
  by_cases he : ls = []
  · subst he
    simp at hl
    subst hl
    simp [neD_lst_nil (okD_nats [])]
    exact h fs b2 (hb2.mono (by omega)) (by omega) h4
  · have hpos : 0 < ls.length := List.length_pos_iff.mpr he
    simp [neD_lst_nil (okD_nats ls), he]
    refine take_ok hb2 (by omega) (by omega) (by omega) fun v b3 hb3 hv0 hv1 => ?_
    obtain ⟨v, rfl⟩ := Int.eq_ofNat_of_zero_le hv0
    have hv : v < ls.length := by omega
    simp [popAtD_1 (xs := ls.map fun (k : Nat) => D.int (k : Int)) (n := v) (by simpa using hv) (by simp; omega)]
    refine ⟨by omega, k - 1, by omega, b3, hb3.mono (by omega), ls.eraseIdx v, by rw [List.length_eraseIdx_of_lt hv]; omega, by omega, fs ++ [ls[v]], by simp; omega, fun k hk => h3 k (List.mem_of_mem_eraseIdx hk), fun k hk => ?_, rfl, erase_map _ _, by simp⟩
    rcases List.mem_append.mp hk with hk | hk
    · exact h4 k hk
    · simp at hk; subst hk; exact h3 _ (List.getElem_mem hv)
theorem same_plain {n : Nat} {x : D} {Q : RV → List SV → Prop} (hx : x = .non ∨ (∃ s, x = .str s ∧ s.length ≤ 16777216) ∨ (∃ i, x = .int i) ∨ ∃ b, x = .bl b) (h : Q (.d (.bl true)) [.d x, .d x]) : wF (F__law_same (n + 1)) [.d x, .d x] Q := by
  unfold F__law_same
  rw [wF_run]
  unfold B__law_same
  rcases hx with rfl | ⟨s, rfl, hs⟩ | ⟨i, rfl⟩ | ⟨b, rfl⟩
  · simpa using h
  · simp
    refine ⟨hs, by omega, wC_none (fun x hx => ?_) (by simpa using h) (by simpa using hs)⟩
    obtain ⟨k, hk, rfl⟩ := mem_range_map hx
    simp [cutL_one hk, atI_nat hk]
    exact hs
  · simpa using h
  · simpa using h
theorem same_list {n : Nat} {xs : List D} {Q : RV → List SV → Prop} (hl : xs.length ≤ 16777216) (hx : ∀ x ∈ xs, ∀ Q : RV → List SV → Prop, Q (.d (.bl true)) [.d x, .d x] → wF (F__law_same n) [.d x, .d x] Q) (h : Q (.d (.bl true)) [.d (.lst xs), .d (.lst xs)]) : wF (F__law_same (n + 1)) [.d (.lst xs), .d (.lst xs)] Q := by
  unfold F__law_same
  rw [wF_run]
  unfold B__law_same
  simp
  refine ⟨by omega, wC_none (fun x hx' => ?_) (by simpa using h) (by simpa using hl)⟩
  obtain ⟨k, hk, rfl⟩ := mem_range_map hx'
  simp [atI_nat hk]
  refine hx _ (List.getElem_mem hk) _ ?_
  simp
end K52
namespace K52
open PySem PySem.Spec PyProof.Rows L2 TL M
def HasSq (w : List Nat) : Prop := ∃ k s, 0 < s ∧ k + 2 * s ≤ w.length ∧ (w.drop k).take s = (w.drop (k + s)).take s
def EndSq (w : List Nat) : Prop := ∃ s, 0 < s ∧ 2 * s ≤ w.length ∧ (w.drop (w.length - 2 * s)).take s = w.drop (w.length - s)
noncomputable def hasSq (w : List Nat) : Bool := @decide (HasSq w) (Classical.propDecidable _)
noncomputable def endSq (w : List Nat) : Bool := @decide (EndSq w) (Classical.propDecidable _)
theorem hasSq_t {w : List Nat} (h : HasSq w) : hasSq w = true := by simp [hasSq, h]
theorem hasSq_f {w : List Nat} (h : ¬ HasSq w) : hasSq w = false := by simp [hasSq, h]
theorem endSq_t {w : List Nat} (h : EndSq w) : endSq w = true := by simp [endSq, h]
theorem endSq_f {w : List Nat} (h : ¬ EndSq w) : endSq w = false := by simp [endSq, h]
theorem lawhas_ok {w : List Nat} (hw : w.length ≤ 1000000) {Q : RV → List SV → Prop} (h : Q (.d (.bl (hasSq w))) [.d (.str w)]) : wF F__law_has_square [.d (.str w)] Q := by
  unfold F__law_has_square
  rw [wF_run]
  unfold B__law_has_square
  simp
  refine ⟨by omega, by omega, wR_inv (fun i ρ => (∀ s k, 0 < s → s ≤ i → k + 2 * s ≤ w.length → ¬ (w.drop k).take s = (w.drop (k + s)).take s) ∧ ∃ o o', ρ = [some (.d (.str w)), o, o']) (k := 0) ⟨fun s k h1 h2 => by omega, _, _, rfl⟩ (fun i x ρ hx hP => ?_) fun ρ hP => ?_⟩
  · obtain ⟨hn, o, o', rfl⟩ := hP
    obtain ⟨hi, rfl⟩ := range_at hx
    simp
    refine ⟨by omega, by omega, wR_inv (fun j ρ => (∀ k, k < j → ¬ (w.drop k).take (i + 1) = (w.drop (k + (i + 1))).take (i + 1)) ∧ ∃ o', ρ = [some (.d (.str w)), some (.d (.int (1 + (i : Int)))), o']) (k := 0) ⟨fun k h1 => by omega, _, rfl⟩ (fun j x ρ hx hP => ?_) fun ρ hP => ?_⟩
    · obtain ⟨hn2, o', rfl⟩ := hP
      obtain ⟨hj, rfl⟩ := range_at hx
      simp [cutL_both (show (0 : Int) ≤ j by omega) (show (0 : Int) ≤ j + (1 + i) by omega), cutL_both (show (0 : Int) ≤ j + (1 + i) by omega) (show (0 : Int) ≤ j + 2 * (1 + i) by omega)]
      have e1 : ((j : Int) + (1 + (i : Int))).toNat - j = i + 1 := by omega
      have e2 : ((j : Int) + 2 * (1 + (i : Int))).toNat - ((j : Int) + (1 + (i : Int))).toNat = i + 1 := by omega
      have e3 : ((j : Int) + (1 + (i : Int))).toNat = j + (i + 1) := by omega
      rw [e1, e2, e3]
      refine ⟨by omega, ?_⟩
      split
      · rename_i he
        rw [hasSq_t ⟨j, i + 1, by omega, by omega, he⟩] at h
        exact h
      · rename_i he
        intro k hk
        by_cases hkj : k = j
        · subst hkj; exact he
        · exact hn2 k (by omega)
    · obtain ⟨hn2, o', rfl⟩ := hP
      refine ⟨fun s k h1 h2 h3 => ?_, _, _, rfl⟩
      by_cases hs : s = i + 1
      · subst hs; exact hn2 k (by simp; omega)
      · exact hn s k h1 (by omega) h3
  · obtain ⟨hn, o, o', rfl⟩ := hP
    simp
    rw [hasSq_f (fun ⟨k, s, h1, h2, h3⟩ => hn s k h1 (by simp; omega) h2 h3)] at h
    exact h
theorem ispow_ok {w : List Nat} {k s : Nat} (hw : w.length ≤ 1000000) (hk : k + 2 * s = w.length) {Q : RV → List SV → Prop} (h : Q (.d (.bl (decide ((w.drop k).take s = (w.drop (k + s)).take s)))) [.d (.str w), .d (.int k), .d (.int s), .d (.int 2)]) : wF F_is_power [.d (.str w), .d (.int k), .d (.int s), .d (.int 2)] Q := by
  unfold F_is_power
  rw [wF_run]
  unfold B_is_power
  have e0 : ((k : Int) + (s : Int) * 2 ≤ w.length) = True := eq_true (by omega)
  simp [e0, cutL_both (show (0 : Int) ≤ k by omega) (show (0 : Int) ≤ k + s * 2 - s by omega), cutL_both (show (0 : Int) ≤ k + s by omega) (show (0 : Int) ≤ k + s * 2 by omega)]
  have e1 : ((k : Int) + (s : Int) * 2).toNat - s - k = s := by omega
  have e2 : ((k : Int) + (s : Int) * 2).toNat - ((k : Int) + (s : Int)).toNat = s := by omega
  have e3 : ((k : Int) + (s : Int)).toNat = k + s := by omega
  rw [e1, e2, e3]
  exact ⟨by omega, h⟩
theorem take_drop_end {w : List Nat} {e k s : Nat} (h : k + s ≤ e) : ((w.take e).drop k).take s = (w.drop k).take s := by
  rw [List.drop_take, List.take_take, Nat.min_eq_left (by omega)]
theorem first_ok {w : List Nat} (hw : w.length ≤ 1000000) {Q : RV → List SV → Prop} (h1 : HasSq w → ∀ a b : Int, Q (.d (.tup [.int a, .int b])) [.d (.str w), .d (.int 2)]) (h0 : ¬ HasSq w → Q (.d .non) [.d (.str w), .d (.int 2)]) : wF F_first_power [.d (.str w), .d (.int 2)] Q := by
  unfold F_first_power
  rw [wF_run]
  unfold B_first_power
  simp
  refine ⟨by omega, by omega, wR_inv (fun i ρ => (∀ k s, 0 < s → k + 2 * s < 2 + i → ¬ (w.drop k).take s = (w.drop (k + s)).take s) ∧ ∃ o o', ρ = [some (.d (.str w)), some (.d (.int 2)), o, o']) (k := 0) ⟨fun s k h1 h2 => by omega, _, _, rfl⟩ (fun i x ρ hx hP => ?_) fun ρ hP => ?_⟩
  · obtain ⟨hn, o, o', rfl⟩ := hP
    obtain ⟨hi, rfl⟩ := range_at hx
    simp
    refine ⟨by omega, wR_inv (fun j ρ => (∀ k s, (2 + i) / 2 < s + j → k + 2 * s = 2 + i → ¬ (w.drop k).take s = (w.drop (k + s)).take s) ∧ ∃ o', ρ = [some (.d (.str w)), some (.d (.int 2)), some (.d (.int (2 + (i : Int)))), o']) (k := 0) ⟨fun k s h1 h2 => by omega, _, rfl⟩ (fun j x ρ hx hP => ?_) fun ρ hP => ?_⟩
    · obtain ⟨hn2, o', rfl⟩ := hP
      obtain ⟨hj, rfl⟩ := range_at hx
      simp [cutL_to (show (0 : Int) ≤ 2 + i by omega)]
      have hs0 : 0 < (2 + i) / 2 - j := by omega
      obtain ⟨s, hs⟩ : ∃ s, s = (2 + i) / 2 - j := ⟨_, rfl⟩
      obtain ⟨k, hk⟩ : ∃ k, k = 2 + i - 2 * s := ⟨_, rfl⟩
      have e5 : 2 + (i : Int) - ((2 + (i : Int)) / 2 + -(j : Int)) * 2 = (k : Int) := by omega
      have e4 : (2 + (i : Int)) / 2 + -(j : Int) = (s : Int) := by omega
      have e6 : (2 + (i : Int)).toNat = 2 + i := by omega
      rw [e5, e4, e6]
      have hwl : 2 + i ≤ w.length := by omega
      refine ⟨by omega, ?_⟩
      have ha1 : (w.take (2 + i)).length ≤ 1000000 := by simp; omega
      have ha2 : k + 2 * s = (w.take (2 + i)).length := by rw [List.length_take]; omega
      refine ispow_ok ha1 ha2 ?_
      rw [take_drop_end (by omega), take_drop_end (by omega)]
      simp
      by_cases he : (w.drop k).take s = (w.drop (k + s)).take s
      · simp [he]
        exact h1 ⟨k, s, by omega, by omega, he⟩ _ _
      · simp [he]
        intro k' s' h3 h4
        by_cases hss : s' = s
        · subst hss
          have : k' = k := by omega
          subst this
          exact he
        · exact hn2 k' s' (by omega) h4
    · obtain ⟨hn2, o', rfl⟩ := hP
      refine ⟨fun k s h3 h4 => ?_, _, _, rfl⟩
      by_cases hks : k + 2 * s = 2 + i
      · exact hn2 k s (by simp; omega) hks
      · exact hn k s h3 (by omega)
  · obtain ⟨hn, o, o', rfl⟩ := hP
    simp
    exact h0 fun ⟨k, s, h1, h2, h3⟩ => hn k s h1 (by simp; omega) h3
abbrev SQ : List Nat := [115, 113, 117, 97, 114, 101]
theorem has_ok {w : List Nat} (hw : w.length ≤ 1000000) {Q : RV → List SV → Prop} (h : Q (.d (.bl (hasSq w))) [.d (.str SQ), .d (.str w)]) : wF F_has_kind [.d (.str SQ), .d (.str w)] Q := by
  unfold F_has_kind
  rw [wF_run]
  unfold B_has_kind
  simp
  refine first_ok hw (fun hs a b => ?_) (fun hs => ?_)
  · rw [hasSq_t hs] at h
    simpa using h
  · rw [hasSq_f hs] at h
    simpa using h
theorem ends_ok {w : List Nat} (hw : w.length ≤ 1000000) {Q : RV → List SV → Prop} (h : Q (.d (.bl (endSq w))) [.d (.str SQ), .d (.str w)]) : wF F_ends_with_kind [.d (.str SQ), .d (.str w)] Q := by
  unfold F_ends_with_kind
  rw [wF_run]
  unfold B_ends_with_kind
  simp
  refine ⟨by omega, by omega, wR_inv (fun i ρ => (∀ s, 0 < s → s ≤ i → 2 * s ≤ w.length → ¬ (w.drop (w.length - 2 * s)).take s = w.drop (w.length - s)) ∧ ∃ o o', ρ = [some (.d (.str SQ)), some (.d (.str w)), o, some (.d (.int 2)), o']) (k := 0) ⟨fun s h1 h2 => by omega, _, _, rfl⟩ (fun i x ρ hx hP => ?_) fun ρ hP => ?_⟩
  · obtain ⟨hn, o, o', rfl⟩ := hP
    obtain ⟨hi, rfl⟩ := range_at hx
    have e1 : ((w.length : Int) - (1 + (i : Int)) * 2).toNat = w.length - 2 * (i + 1) := by omega
    simp [cutL_from (show (0 : Int) ≤ w.length - (1 + i) * 2 by omega), e1]
    rw [cutL_from (by omega), cutL_init (by omega)]
    have e2 : (1 + (i : Int)).toNat = i + 1 := by omega
    have e3 : (-(1 + (i : Int)) + ((w.drop (w.length - 2 * (i + 1))).length : Int)).toNat = i + 1 := by simp; omega
    rw [e2, e3, List.drop_drop]
    have e4 : w.length - 2 * (i + 1) + (i + 1) = w.length - (i + 1) := by omega
    rw [e4]
    refine ⟨by omega, by omega, ?_⟩
    split
    · rename_i he
      rw [endSq_t ⟨i + 1, by omega, by omega, he.symm⟩] at h
      exact h
    · rename_i he
      intro s h1 h2 h3
      by_cases hs : s = i + 1
      · subst hs; exact fun z => he z.symm
      · exact hn s h1 (by omega) h3
  · obtain ⟨hn, o, o', rfl⟩ := hP
    simp
    rw [endSq_f (fun ⟨s, h1, h2, h3⟩ => hn s h1 (by simp; omega) h2 h3)] at h
    exact h
theorem lawends_ok {w : List Nat} (hw : w.length ≤ 1000000) {Q : RV → List SV → Prop} (h : Q (.d (.bl (endSq w))) [.d (.str w)]) : wF F__law_ends_square [.d (.str w)] Q := by
  unfold F__law_ends_square
  rw [wF_run]
  unfold B__law_ends_square
  simp
  refine ⟨by omega, by omega, wC_map (fun x => match x with | .int s => decide ((w.drop (w.length - 2 * s.toNat)).take s.toNat = w.drop (w.length - s.toNat)) | _ => false) id (by simp; omega) (fun x hx => ?_) ?_⟩
  · obtain ⟨i, hi, rfl⟩ := mem_range_map hx
    have e1 : (1 + (i : Int)).toNat = i + 1 := by omega
    have e2 : (-(1 + (i : Int)) + (w.length : Int)).toNat = w.length - (i + 1) := by omega
    have e3 : (-2 * (1 + (i : Int)) + (w.length : Int)).toNat = w.length - 2 * (i + 1) := by omega
    have e4 : w.length - (i + 1) - (w.length - 2 * (i + 1)) = i + 1 := by omega
    have e5 : (-(2 * (1 + (i : Int))) + (w.length : Int)).toNat = w.length - 2 * (i + 1) := by omega
    simp [cutL_tail (show -(1 + (i : Int)) < 0 by omega), cutL_mid (show -(2 * (1 + (i : Int))) < 0 by omega) (show -(1 + (i : Int)) < 0 by omega), cutL_mid (show -2 * (1 + (i : Int)) < 0 by omega) (show -(1 + (i : Int)) < 0 by omega), e1, e2, e3, e4, e5]
    exact ⟨by omega, Eq.symm, Eq.symm⟩
  · simp
    rw [List.filter_map, neD_lst_nil (okD_map (fun _ => rfl) (fun _ => rfl) _)]
    by_cases hE : EndSq w
    · rw [endSq_t hE] at h
      obtain ⟨s, h1, h2, h3⟩ := hE
      have : (List.filter ((fun x => match x with | D.int s => decide ((w.drop (w.length - 2 * s.toNat)).take s.toNat = w.drop (w.length - s.toNat)) | _ => false) ∘ fun k : Nat => D.int (1 + (k : Int))) (List.range ((w.length : Int) / 2).toNat)).isEmpty = false := by
        rw [List.isEmpty_eq_false_iff, Ne, List.filter_eq_nil_iff]
        intro z
        refine z (s - 1) (List.mem_range.mpr (by omega)) ?_
        have e1 : (1 + ((s - 1 : Nat) : Int)).toNat = s := by omega
        simp [e1, h3]
      simp [this]
      exact h
    · rw [endSq_f hE] at h
      have : (List.filter ((fun x => match x with | D.int s => decide ((w.drop (w.length - 2 * s.toNat)).take s.toNat = w.drop (w.length - s.toNat)) | _ => false) ∘ fun k : Nat => D.int (1 + (k : Int))) (List.range ((w.length : Int) / 2).toNat)).isEmpty = true := by
        rw [List.isEmpty_iff, List.filter_eq_nil_iff]
        intro k hk z
        have e1 : (1 + (k : Int)).toNat = k + 1 := by omega
        simp [e1] at z
        exact hE ⟨k + 1, by omega, by simp at hk; omega, z⟩
      simp [this]
      exact h
def abcd (m : Nat) : List Nat := [97, 98, 99, 100].take m
noncomputable def next (m : Nat) (rows : List (List Nat)) : List (List Nat) := (rows.flatMap fun w => (abcd m).map fun c => w ++ [c]).filter fun w => !endSq w
def img (images : List (List Nat)) (w : List Nat) : List Nat := (w.map fun c => images.getD (c - 97) []).flatten
def catD : D → D → D
  | .str a, .str b => .str (a ++ b)
  | _, _ => .non
def grow (m : Nat) (rows : List (List Nat)) : List (List Nat) := rows.flatMap fun w => (abcd m).map fun c => w ++ [c]
theorem abcd_len {m : Nat} (hm : m ≤ 4) : (abcd m).length = m := by
  unfold abcd
  simp
  omega
theorem grow_len {m : Nat} (hm : m ≤ 4) (rows : List (List Nat)) : (grow m rows).length = rows.length * m := by
  unfold grow
  rw [List.length_flatMap]
  simp [abcd_len hm]
  induction rows with
  | nil => simp
  | cons r rows ih => simp [ih, Nat.succ_mul, Nat.add_comm]
theorem grow_mem {m : Nat} {rows : List (List Nat)} {w : List Nat} (h : w ∈ grow m rows) : ∃ u ∈ rows, ∃ c ∈ abcd m, w = u ++ [c] := by
  unfold grow at h
  obtain ⟨u, h1, h2⟩ := List.mem_flatMap.mp h
  obtain ⟨c, h3, h4⟩ := List.mem_map.mp h2
  exact ⟨u, h1, c, h3, h4.symm⟩
theorem grow_str (m : Nat) (rows : List (List Nat)) : ((rows.map D.str).flatMap fun x => ((abcd m).map fun c => D.str [c]).map (catD x)) = (grow m rows).map D.str := by
  unfold grow
  induction rows with
  | nil => rfl
  | cons r rows ih =>
    simp only [List.map_cons, List.flatMap_cons, List.map_append, ih]
    congr 1
    simp [catD]
theorem longer_ok {rows : List (List Nat)} {m : Nat} (hm : m ≤ 4) (hr : rows.length ≤ 1000000) (hw : ∀ w ∈ rows, w.length ≤ 100) {Q : RV → List SV → Prop} (h : Q (.own ((next m rows).map .str)) [.d (.str SQ), .d (.lst (rows.map .str)), .d (.int m)]) : wF F_longer_words [.d (.str SQ), .d (.lst (rows.map .str)), .d (.int m)] Q := by
  unfold F_longer_words
  rw [wF_run]
  unfold B_longer_words
  have hgl := grow_len hm rows
  have hrm : rows.length * m ≤ rows.length * 4 := Nat.mul_le_mul_left _ hm
  simp
  refine wC2_map (fun _ => (abcd m).map fun c => D.str [c]) catD (by rw [grow_str]; simp; omega) (fun x hx => ?_) ?_
  · obtain ⟨w, hw1, rfl⟩ := List.mem_map.mp hx
    have := hw w hw1
    simp [cutL_to (show (0 : Int) ≤ m by omega)]
    refine ⟨by unfold abcd; rw [List.map_take]; rfl, fun acc hacc Q hQ => wC_mapA (fun _ => true) (catD (.str w)) (by simp; omega) (fun z hz => ?_) ?_⟩
    · obtain ⟨c, hc, rfl⟩ := List.mem_map.mp hz
      simp [catD]
      omega
    · have e2 : ((abcd m).map fun c => D.str [c]).filter (fun _ => true) = (abcd m).map fun c => D.str [c] := List.filter_eq_self.mpr (by simp)
      rw [e2, List.map_map]
      exact hQ _ (by simp)
  · rw [grow_str]
    simp
    refine wC_map (fun x => match x with | .str w => !endSq w | _ => false) id (by simp; omega) (fun x hx => ?_) ?_
    · obtain ⟨w, hw1, rfl⟩ := List.mem_map.mp hx
      obtain ⟨u, hu, c, hc, rfl⟩ := grow_mem hw1
      have := hw u hu
      simp
      refine ends_ok (by simp; omega) ?_
      simp
    · rw [List.filter_map]
      simp
      exact h
theorem next_mem {m : Nat} {rows : List (List Nat)} {w : List Nat} (h : w ∈ next m rows) : (∃ u ∈ rows, ∃ c ∈ abcd m, w = u ++ [c]) ∧ endSq w = false := by
  obtain ⟨h1, h2⟩ := List.mem_filter.mp h
  exact ⟨grow_mem h1, by simpa using h2⟩
theorem next_len {m : Nat} (hm : m ≤ 4) (rows : List (List Nat)) : (next m rows).length ≤ rows.length * 4 := by
  have h1 := List.length_filter_le (fun w => !endSq w) (grow m rows)
  rw [grow_len hm] at h1
  exact Nat.le_trans h1 (Nat.mul_le_mul_left _ hm)
theorem sind {c k : Nat} (h : occ [97, 98, 99, 100] [c] = [k]) : sindexD [97, 98, 99, 100] [.str [c]] = some (.d (.int (k : Int))) := by
  simp [sindexD, h]
theorem idx_ok {m c : Nat} (h : c ∈ abcd m) : c - 97 < m ∧ c - 97 < 4 ∧ sindexD [97, 98, 99, 100] [.str [c]] = some (.d (.int ((c - 97 : Nat) : Int))) := by
  have h4 : c ∈ [97, 98, 99, 100] := List.mem_of_mem_take h
  have hm : c - 97 < m := by
    unfold abcd at h
    obtain ⟨i, hi, e⟩ := List.mem_iff_getElem.mp h
    simp at hi
    rw [List.getElem_take] at e
    have : i = 0 ∨ i = 1 ∨ i = 2 ∨ i = 3 := by omega
    rcases this with rfl | rfl | rfl | rfl <;> simp at e <;> omega
  refine ⟨hm, ?_⟩
  simp at h4
  rcases h4 with rfl | rfl | rfl | rfl
  · exact ⟨by omega, sind (by decide +kernel)⟩
  · exact ⟨by omega, sind (by decide +kernel)⟩
  · exact ⟨by omega, sind (by decide +kernel)⟩
  · exact ⟨by omega, sind (by decide +kernel)⟩
theorem abcd_lt {m c : Nat} (h : c ∈ abcd m) : 97 ≤ c ∧ c < 101 := by
  have h4 : c ∈ [97, 98, 99, 100] := List.mem_of_mem_take h
  simp at h4
  omega
theorem getD_len {images : List (List Nat)} {n : Nat} (h : ∀ u ∈ images, u.length ≤ n) (i : Nat) : (images.getD i []).length ≤ n := by
  by_cases hi : i < images.length
  · rw [List.getD_eq_getElem?_getD, List.getElem?_eq_getElem hi]
    exact h _ (List.getElem_mem hi)
  · rw [List.getD_eq_getElem?_getD, List.getElem?_eq_none (by omega)]
    simp
theorem sum_le {l : List (List Nat)} {n : Nat} (h : ∀ u ∈ l, u.length ≤ n) : (l.map (·.length)).sum ≤ l.length * n := by
  induction l with
  | nil => simp
  | cons a l ih =>
    have h1 := h a (by simp)
    have h2 := ih fun u hu => h u (by simp [hu])
    simp [Nat.succ_mul]
    omega
theorem img_len {images : List (List Nat)} {n : Nat} (h : ∀ u ∈ images, u.length ≤ n) (w : List Nat) : (img images w).length ≤ w.length * n := by
  unfold img
  rw [List.length_flatten]
  have := sum_le (l := w.map fun c => images.getD (c - 97) []) (n := n) fun u hu => by
    obtain ⟨c, _, rfl⟩ := List.mem_map.mp hu
    exact getD_len h _
  simpa using this
def nthD (images : List (List Nat)) : D → D
  | .str [c] => .str (images.getD (c - 97) [])
  | _ => .non
theorem image_ok {images : List (List Nat)} {w : List Nat} (hi : ∀ u ∈ images, u.length ≤ 100) (hl : w.length ≤ 1000) (hw : ∀ c ∈ w, c ∈ abcd images.length) {Q : RV → List SV → Prop} (h : Q (.d (.str (img images w))) [.d (.tup (images.map .str)), .d (.str w)]) : wF F_image_of [.d (.tup (images.map .str)), .d (.str w)] Q := by
  unfold F_image_of
  rw [wF_run]
  unfold B_image_of
  simp
  refine wC_map (fun _ => true) (nthD images) (by simp; omega) (fun x hx => ?_) ?_
  · obtain ⟨c, hc, rfl⟩ := List.mem_map.mp hx
    obtain ⟨h1, h2, h3⟩ := idx_ok (hw c hc)
    simp [h3]
    rw [atI_nat (by simpa using h1)]
    simp [nthD, h1]
  · have e : List.map (nthD images) (List.filter (fun _ => true) (w.map fun c => D.str [c])) = (w.map fun c => images.getD (c - 97) []).map .str := by
      rw [List.filter_eq_self.mpr (by simp), List.map_map, List.map_map]
      rfl
    have hl2 := img_len hi w
    unfold img at hl2
    rw [List.length_flatten] at hl2
    have ej := joinD_lst (w.map fun c => images.getD (c - 97) []) (Nat.le_trans hl2 (by omega))
    rw [← e] at ej
    simp
    rw [ej]
    simpa [img] using h
theorem limage_ok {images : List (List Nat)} {w : List Nat} (h0 : images ≠ []) (hi : ∀ u ∈ images, u.length ≤ 100) (hlet : ∀ u ∈ images, ∀ c ∈ u, c ∈ abcd 4) (hl : w.length ≤ 1000) (hw : ∀ c ∈ w, c ∈ abcd images.length) {Q : RV → List SV → Prop} (h : Q (.d (.str (img images w))) [.d (.tup (images.map .str)), .d (.str w)]) : wF F__law_image [.d (.tup (images.map .str)), .d (.str w)] Q := by
  have hok : okD (.tup (images.map .str)) = true := okD_tup_strs fun u hu c hc => by
    have := abcd_lt (hlet u hu c hc)
    omega
  unfold F__law_image
  rw [wF_run]
  unfold B__law_image
  simp
  refine wC_map (fun _ => true) (nthD images) (by simp; omega) (fun x hx => ?_) ?_
  · obtain ⟨c, hc, rfl⟩ := List.mem_map.mp hx
    obtain ⟨h1, h2, h3⟩ := idx_ok (hw c hc)
    simp [h3, eqD_tup_nil hok, h0]
    rw [atI_nat (by simpa using h1)]
    simp [nthD, h1]
  · have e : List.map (nthD images) (List.filter (fun _ => true) (w.map fun c => D.str [c])) = (w.map fun c => images.getD (c - 97) []).map .str := by
      rw [List.filter_eq_self.mpr (by simp), List.map_map, List.map_map]
      rfl
    have hl2 := img_len hi w
    unfold img at hl2
    rw [List.length_flatten] at hl2
    have ej := joinD_lst (w.map fun c => images.getD (c - 97) []) (Nat.le_trans hl2 (by omega))
    rw [← e] at ej
    simp
    rw [ej]
    simpa [img] using h
end K52
namespace K52
open PySem PySem.Spec PyProof.Rows L2 TL M
def optD : Option (List Nat) → D
  | none => .non
  | some w => .str w
noncomputable def brkGo (images : List (List Nat)) : Nat → List (List Nat) → Option (List Nat)
  | 0, _ => none
  | n + 1, rows => match (next images.length rows).find? fun w => hasSq (img images w) with
    | some w => some w
    | none => brkGo images n (next images.length rows)
theorem find_at {α : Type} {p : α → Bool} : ∀ {l : List α} {j : Nat} {x : α}, l[j]? = some x → (∀ k y, k < j → l[k]? = some y → p y = false) → p x = true → l.find? p = some x
  | [], j, x, h, _, _ => by simp at h
  | a :: l, 0, x, h, _, hp => by
    simp at h; subst h
    simp [List.find?, hp]
  | a :: l, j + 1, x, h, hn, hp => by
    have ha := hn 0 a (by omega) rfl
    simp only [List.find?, ha]
    exact find_at (l := l) (j := j) (by simpa using h) (fun k y hk hy => hn (k + 1) y (by omega) (by simpa using hy)) hp
theorem find_no {α : Type} {p : α → Bool} {l : List α} (hn : ∀ k y, k < l.length → l[k]? = some y → p y = false) : l.find? p = none := by
  rw [List.find?_eq_none]
  intro x hx
  obtain ⟨k, hk, e⟩ := List.mem_iff_getElem.mp hx
  have := hn k x hk (by rw [List.getElem?_eq_getElem hk, e])
  simp [this]
structure RowOk (m i : Nat) (rows : List (List Nat)) : Prop where
  n : rows.length ≤ 4 ^ i
  l : ∀ w ∈ rows, w.length = i
  c : ∀ w ∈ rows, ∀ c ∈ w, c ∈ abcd m
  s : ∀ w ∈ rows, ¬ HasSq w
theorem RowOk.zero (m : Nat) : RowOk m 0 [[]] := ⟨by simp, by simp, by simp, fun w hw => by
  simp at hw; subst hw
  rintro ⟨k, s, h1, h2, _⟩
  simp at h2; omega⟩
theorem nosq_snoc {w : List Nat} {c : Nat} (h : ¬ HasSq w) (he : endSq (w ++ [c]) = false) : ¬ HasSq (w ++ [c]) := by
  rintro ⟨k, s, h1, h2, h3⟩
  simp at h2
  by_cases hk : k + 2 * s = w.length + 1
  · have : EndSq (w ++ [c]) := by
      refine ⟨s, h1, by simp; omega, ?_⟩
      have e1 : (w ++ [c]).length - 2 * s = k := by simp; omega
      have e2 : (w ++ [c]).length - s = k + s := by simp; omega
      rw [e1, e2, h3, List.take_of_length_le (by simp; omega)]
    rw [endSq_t this] at he
    cases he
  · refine h ⟨k, s, h1, by omega, ?_⟩
    rw [List.drop_append_of_le_length (by omega), List.drop_append_of_le_length (by omega), List.take_append_of_le_length (by simp; omega), List.take_append_of_le_length (by simp; omega)] at h3
    exact h3
theorem RowOk.next {m i : Nat} {rows : List (List Nat)} (h : RowOk m i rows) (hm : m ≤ 4) : RowOk m (i + 1) (next m rows) := by
  refine ⟨?_, fun w hw => ?_, fun w hw c hc => ?_, fun w hw => ?_⟩
  · have := next_len hm rows
    have := h.n
    rw [Nat.pow_succ]
    omega
  · obtain ⟨⟨u, hu, c, hc, rfl⟩, _⟩ := next_mem hw
    simp [h.l u hu]
  · obtain ⟨⟨u, hu, c', hc', rfl⟩, _⟩ := next_mem hw
    rcases List.mem_append.mp hc with hc | hc
    · exact h.c u hu c hc
    · simp at hc; subst hc; exact hc'
  · obtain ⟨⟨u, hu, c', hc', rfl⟩, he⟩ := next_mem hw
    exact nosq_snoc (h.s u hu) he
structure Ims (images : List (List Nat)) : Prop where
  n0 : images ≠ []
  n4 : images.length ≤ 4
  len : ∀ u ∈ images, u.length ≤ 12
  let' : ∀ u ∈ images, ∀ c ∈ u, c ∈ abcd images.length
theorem abcd_mono {m c : Nat} (hm : m ≤ 4) (h : c ∈ abcd m) : c ∈ abcd 4 := by
  have : abcd 4 = [97, 98, 99, 100] := rfl
  rw [this]
  exact List.mem_of_mem_take h
theorem Ims.img_le {images : List (List Nat)} (h : Ims images) {w : List Nat} (hw : w.length ≤ 100) : (img images w).length ≤ 1200 := by
  have := img_len h.len w
  omega
theorem pow4 {i : Nat} (h : i ≤ 10) : 4 ^ i ≤ 1048576 := by
  have : (4 : Nat) ^ i ≤ 4 ^ 10 := Nat.pow_le_pow_right (by omega) h
  simpa using this
theorem pow4' {i : Nat} (h : i < 10) : 4 ^ i ≤ 262144 := by
  have : (4 : Nat) ^ i ≤ 4 ^ 9 := Nat.pow_le_pow_right (by omega) (by omega)
  simpa using this
theorem breaking_ok {images : List (List Nat)} {n : Nat} (hI : Ims images) (hn : n ≤ 10) {Q : RV → List SV → Prop} (h : Q (.d (optD (brkGo images n [[]]))) [.d (.str SQ), .d (.tup (images.map .str)), .d (.int n)]) : wF F_breaking [.d (.str SQ), .d (.tup (images.map .str)), .d (.int n)] Q := by
  have hi100 : ∀ u ∈ images, u.length ≤ 100 := fun u hu => Nat.le_trans (hI.len u hu) (by omega)
  unfold F_breaking
  rw [wF_run]
  unfold B_breaking
  simp
  refine ⟨by omega, wR_inv (fun i ρ => ∃ rows o o' o'', RowOk images.length i rows ∧ brkGo images n [[]] = brkGo images (n - i) rows ∧ ρ = [some (.d (.str SQ)), some (.d (.tup (images.map .str))), some (.d (.int n)), some o, o', o''] ∧ (o = .own false (rows.map .str) ∨ o = .d (.lst (rows.map .str)))) (k := 0) ⟨[[]], _, _, _, RowOk.zero _, rfl, rfl, .inl rfl⟩ (fun i x ρ hx hP => ?_) fun ρ hP => ?_⟩
  · obtain ⟨rows, o, o', o'', hR, hb, rfl, ho⟩ := hP
    obtain ⟨hi, rfl⟩ := range_at hx
    simp only [Nat.zero_add] at hR hb ⊢
    have hp := pow4' (show i < 10 by omega)
    have hRn := hR.n
    have hR' := hR.next hI.n4
    have hRn' := hR'.n
    have hp' := pow4 (show i + 1 ≤ 10 by omega)
    have e1 : n - i = (n - (i + 1)) + 1 := by omega
    rw [e1, brkGo] at hb
    rcases ho with rfl | rfl
    all_goals
      simp
      refine longer_ok hI.n4 (by omega) (fun w hw => by rw [hR.l w hw]; omega) ?_
      simp
      refine wR_inv (fun j ρ => (∀ k w, k < j → (next images.length rows)[k]? = some w → hasSq (img images w) = false) ∧ ∃ o'', ρ = [some (.d (.str SQ)), some (.d (.tup (images.map .str))), some (.d (.int n)), some (.d (.lst ((next images.length rows).map .str))), some (.d (.int (i : Int))), o'']) (k := 0) ⟨fun k w hk => by omega, _, rfl⟩ (fun j x ρ hx hP => ?_) fun ρ hP => ?_
      · obtain ⟨hno, o'', rfl⟩ := hP
        obtain ⟨w, hw, rfl⟩ := map_at hx
        have hwm : w ∈ next images.length rows := List.mem_of_getElem? hw
        have hwl := hR'.l w hwm
        simp
        refine image_ok hi100 (by omega) (hR'.c w hwm) ?_
        simp
        have := hI.img_le (w := w) (by omega)
        refine has_ok (by omega) ?_
        simp
        split
        · rename_i hs
          rw [hb, find_at hw (fun k y hk hy => hno k y (by omega) hy) hs] at h
          exact h
        · rename_i hs
          intro k y hk hy
          by_cases hkj : k = j
          · subst hkj
            rw [hw] at hy
            cases hy
            simpa using hs
          · exact hno k y (by omega) hy
      · obtain ⟨hno, o'', rfl⟩ := hP
        rw [find_no (fun k y hk hy => hno k y (by simp; omega) hy)] at hb
        exact ⟨next images.length rows, _, _, _, by rw [Nat.zero_add]; exact hR', by rw [Nat.zero_add]; exact hb, rfl, .inr rfl⟩
  · obtain ⟨rows, o, o', o'', hR, hb, rfl, ho⟩ := hP
    simp at hb
    rw [hb, brkGo] at h
    simp
    exact h
theorem min_le : ∀ (ns : List Int) (n : Int), 0 ≤ n → (∀ k ∈ ns, 0 ≤ k) → 0 ≤ minL n ns ∧ minL n ns ≤ n
  | [], n, h, _ => ⟨h, Int.le_refl n⟩
  | k :: ns, n, h, hk => by
    have h1 := hk k (by simp)
    show 0 ≤ minL (if k < n then k else n) ns ∧ minL (if k < n then k else n) ns ≤ n
    have := min_le ns (if k < n then k else n) (by split <;> omega) fun j hj => hk j (by simp [hj])
    refine ⟨this.1, Int.le_trans this.2 (by split <;> omega)⟩
theorem max_le {b : Int} : ∀ (ns : List Int) (n : Int), n ≤ b → (∀ k ∈ ns, k ≤ b) → n ≤ maxL n ns ∧ maxL n ns ≤ b
  | [], n, h, _ => ⟨Int.le_refl n, h⟩
  | k :: ns, n, h, hk => by
    have h1 := hk k (by simp)
    show n ≤ maxL (if n < k then k else n) ns ∧ maxL (if n < k then k else n) ns ≤ b
    have := max_le ns (if n < k then k else n) (by split <;> omega) fun j hj => hk j (by simp [hj])
    refine ⟨Int.le_trans (by split <;> omega) this.1, this.2⟩
def loI (images : List (List Nat)) : Int := match images.map fun u => (u.length : Int) with
  | n :: ns => minL n ns
  | [] => 0
def hiI (images : List (List Nat)) : Int := match images.map fun u => (u.length : Int) with
  | n :: ns => maxL n ns
  | [] => 0
theorem lohi {images : List (List Nat)} (hI : Ims images) : 0 ≤ loI images ∧ loI images ≤ 12 ∧ 0 ≤ hiI images ∧ hiI images ≤ 12 := by
  have h0 := hI.n0
  have hl := hI.len
  cases images with
  | nil => exact absurd rfl h0
  | cons u us =>
    have h1 := hl u (by simp)
    have h2 := min_le (us.map fun u => (u.length : Int)) u.length (by omega) (fun k hk => by
      obtain ⟨v, _, rfl⟩ := List.mem_map.mp hk
      omega)
    have h3 := max_le (b := 12) (us.map fun u => (u.length : Int)) u.length (by omega) (fun k hk => by
      obtain ⟨v, hv, rfl⟩ := List.mem_map.mp hk
      have := hl v (by simp [hv])
      omega)
    have e1 : loI (u :: us) = minL u.length (us.map fun u => (u.length : Int)) := rfl
    have e2 : hiI (u :: us) = maxL u.length (us.map fun u => (u.length : Int)) := rfl
    omega
def bnd (images : List (List Nat)) : Int := if loI images = 0 then 3 else if 1 - (3 - hiI images) / loI images > 3 then 1 - (3 - hiI images) / loI images else 3
theorem bnd_arith {l m : Int} (h0 : 0 < l) (h1 : l ≤ 12) (h2 : 0 ≤ m) (h3 : m ≤ 12) : 1 - (3 - m) / l ≤ 10 ∧ (m ≤ 3 → 1 - (3 - m) / l ≤ 3) ∧ (m - 3 + l - 1) / l = - ((3 - m) / l) := by
  have : l = 1 ∨ l = 2 ∨ l = 3 ∨ l = 4 ∨ l = 5 ∨ l = 6 ∨ l = 7 ∨ l = 8 ∨ l = 9 ∨ l = 10 ∨ l = 11 ∨ l = 12 := by omega
  rcases this with rfl | rfl | rfl | rfl | rfl | rfl | rfl | rfl | rfl | rfl | rfl | rfl <;> omega
theorem bnd_le {images : List (List Nat)} (hI : Ims images) : 0 ≤ bnd images ∧ bnd images ≤ 10 := by
  obtain ⟨h1, h2, h3, h4⟩ := lohi hI
  unfold bnd
  by_cases h : loI images = 0
  · simp [h]
  · have := bnd_arith (l := loI images) (by omega) h2 h3 h4
    rw [if_neg h]
    split <;> omega
theorem min_im {images : List (List Nat)} (h : images ≠ []) : minD [.lst (images.map (D.int ∘ fun u => (u.length : Int)))] = some (.d (.int (loI images))) := by
  cases images with
  | nil => exact absurd rfl h
  | cons u us =>
    have := minD_lst (u.length : Int) (us.map fun u => (u.length : Int))
    rw [← List.map_map]
    exact this
theorem max_im {images : List (List Nat)} (h : images ≠ []) : maxD [.lst (images.map (D.int ∘ fun u => (u.length : Int)))] = some (.d (.int (hiI images))) := by
  cases images with
  | nil => exact absurd rfl h
  | cons u us =>
    have := maxD_lst (u.length : Int) (us.map fun u => (u.length : Int))
    rw [← List.map_map]
    exact this
def lenX : D → D
  | .str u => .int (u.length : Int)
  | _ => .non
theorem lens_map {images : List (List Nat)} : (((images.map D.str).filter fun _ => true).map lenX) = images.map (D.int ∘ fun u => (u.length : Int)) := by
  rw [List.filter_eq_self.mpr (by simp), List.map_map]
  rfl
theorem bound_ok {images : List (List Nat)} (hI : Ims images) {Q : RV → List SV → Prop} (h : Q (.d (.int (bnd images))) [.d (.tup (images.map .str))]) : wF F_bound_for [.d (.tup (images.map .str))] Q := by
  obtain ⟨h1, h2, h3, h4⟩ := lohi hI
  have hn4 := hI.n4
  unfold F_bound_for
  rw [wF_run]
  unfold B_bound_for
  simp
  refine wC_map (fun _ => true) lenX (by simp; omega) (fun x hx => ?_) ?_
  · obtain ⟨w, hw, rfl⟩ := List.mem_map.mp hx
    have := hI.len w hw
    simp [lenX]
    omega
  rw [lens_map]
  simp [min_im hI.n0]
  refine wC_map (fun _ => true) lenX (by simp; omega) (fun x hx => ?_) ?_
  · obtain ⟨w, hw, rfl⟩ := List.mem_map.mp hx
    have := hI.len w hw
    simp [lenX]
    omega
  rw [lens_map]
  simp [max_im hI.n0]
  by_cases hz : loI images = 0
  · have e : bnd images = 3 := by unfold bnd; rw [if_pos hz]
    rw [e] at h
    simp [hz]
    exact h
  · obtain ⟨a1, a2, a3⟩ := bnd_arith (l := loI images) (m := hiI images) (by omega) h2 h3 h4
    simp [hz]
    split
    · rename_i hm
      have e : bnd images = 3 := by
        have := a2 hm
        unfold bnd; rw [if_neg hz, if_neg (by omega)]
      rw [e] at h
      exact h
    · refine ⟨⟨by omega, by omega⟩, ?_⟩
      have e : bnd images = if 3 < 1 + (hiI images - 3 + loI images - 1) / loI images then 1 + (hiI images - 3 + loI images - 1) / loI images else 3 := by
        unfold bnd
        rw [if_neg hz, a3]
        rfl
      rw [e] at h
      exact h
theorem square_ok {images : List (List Nat)} {m : Int} (hI : Ims images) {Q : RV → List SV → Prop} (h : Q (.d (optD (brkGo images (bnd images).toNat [[]]))) [.d (.ins "Morphism" ["images", "letters"] [.tup (images.map .str), .int m])]) : wF F_square_break [.d (.ins "Morphism" ["images", "letters"] [.tup (images.map .str), .int m])] Q := by
  have hb := bnd_le hI
  unfold F_square_break
  rw [wF_run]
  unfold B_square_break
  simp
  refine bound_ok hI ?_
  simp
  obtain ⟨n, hn⟩ := Int.eq_ofNat_of_zero_le hb.1
  rw [hn] at h ⊢
  refine breaking_ok hI (by omega) ?_
  simpa using h
end K52
namespace K52
open PySem PySem.Spec PyProof.Rows L2 TL M
theorem next_append (m : Nat) (a b : List (List Nat)) : next m (a ++ b) = next m a ++ next m b := by
  unfold next
  rw [List.flatMap_append, List.filter_append]
theorem next_one (m : Nat) (w : List Nat) : next m [w] = ((abcd m).map fun c => w ++ [c]).filter fun w => !endSq w := by
  unfold next
  simp
noncomputable def keepX (w : List Nat) : D → Bool
  | .str u => !endSq (w ++ u)
  | _ => false
theorem next_one_str (m : Nat) (w : List Nat) : (((abcd m).map fun c => D.str [c]).filter (keepX w)).map (catD (.str w)) = (next m [w]).map .str := by
  rw [next_one, List.filter_map, List.filter_map, List.map_map, List.map_map]
  rfl
theorem abcd_str (m : Nat) : List.take m [D.str [97], D.str [98], D.str [99], D.str [100]] = (abcd m).map fun c => D.str [c] := by
  unfold abcd
  rw [List.map_take]
  rfl
def LB : Sx := (sSeq (sSet 6 (bLstE (aNil)))
    (sSeq (sFor (iLst (bV 3)) (bName 7) (sDrop (bMu 6 extendD (aCons (bFz (bComp (iTxt (bSl (bC (.str [97, 98, 99, 100])) (oNone) (oSome (bFn lenD (aCons (bV 0) (aNil)))))) [9] (bName 9) (bNot (bT (bCall F__law_ends_square (aCons (bFz (bOp addD (bV 7) (bV 9))) (aNil))))) (bOp addD (bV 7) (bV 9)))) (aNil)))))
    (sSeq (sSet 3 (bFz (bV 6)))
    (sFor (iLst (bV 3)) (bName 7) (sIf (bT (bCall F__law_has_square (aCons (bFz (bCall F__law_image (aCons (bFz (bV 0)) (aCons (bFz (bV 7)) (aNil))))) (aNil)))) (sRet (bV 7)) (sNx))))))
theorem lbreak_loop {images : List (List Nat)} {n : Nat} (hI : Ims images) (hn : n ≤ 10) (a b e : Option SV) {Q : Fl → Sl → Prop} (h1 : ∀ w ρ, brkGo images n [[]] = some w → Q (.rt (.d (.str w))) (some (.d (.tup (images.map .str))) :: ρ)) (h0 : ∀ ρ, brkGo images n [[]] = none → Q .nx (some (.d (.tup (images.map .str))) :: ρ)) : wR (bName 5) LB (List.map (fun k : Nat => D.int (1 + (k : Int))) (List.range n)) [some (.d (.tup (images.map .str))), a, b, some (.own false [.str []]), e, none, none, none, none, none] Q := by
  have hn4 := hI.n4
  have hi100 : ∀ u ∈ images, u.length ≤ 100 := fun u hu => Nat.le_trans (hI.len u hu) (by omega)
  have hl4 : ∀ u ∈ images, ∀ c ∈ u, c ∈ abcd 4 := fun u hu c hc => abcd_mono hn4 (hI.let' u hu c hc)
  refine wR_inv (fun i ρ => ∃ rows o o1 o2 o3, RowOk images.length i rows ∧ brkGo images n [[]] = brkGo images (n - i) rows ∧ ρ = [some (.d (.tup (images.map .str))), a, b, some o, e, o1, o2, o3, none, none] ∧ (o = .own false (rows.map .str) ∨ o = .d (.lst (rows.map .str)))) (k := 0) ⟨[[]], _, _, _, _, RowOk.zero _, rfl, rfl, .inl rfl⟩ (fun i x ρ hx hP => ?_) fun ρ hP => ?_
  · obtain ⟨rows, o, o1, o2, o3, hR, hb, rfl, ho⟩ := hP
    obtain ⟨hi, rfl⟩ := range_at hx
    simp only [Nat.zero_add] at hR hb ⊢
    have hp := pow4' (show i < 10 by omega)
    have hRn := hR.n
    have hR' := hR.next hn4
    have hRn' := hR'.n
    have hp' := pow4 (show i + 1 ≤ 10 by omega)
    have e1 : n - i = (n - (i + 1)) + 1 := by omega
    rw [e1, brkGo] at hb
    unfold LB
    rcases ho with rfl | rfl
    all_goals
      simp
      refine wR_inv (fun j ρ => ∃ o3, ρ = [some (.d (.tup (images.map .str))), a, b, some (.d (.lst (rows.map .str))), e, some (.d (.int (1 + (i : Int)))), some (.own false ((next images.length (rows.take j)).map .str)), o3, none, none]) (k := 0) ⟨_, rfl⟩ (fun j x ρ hx hP => ?_) fun ρ hP => ?_
      · obtain ⟨o3, rfl⟩ := hP
        obtain ⟨w, hw, rfl⟩ := map_at hx
        have hwm : w ∈ rows := List.mem_of_getElem? hw
        have hwl := hR.l w hwm
        have hj : j < rows.length := (List.getElem?_eq_some_iff.mp hw).1
        have ej : rows.take (j + 1) = rows.take j ++ [w] := by rw [List.take_succ_eq_append_getElem hj, (List.getElem?_eq_some_iff.mp hw).2]
        simp [cutL_to (show (0 : Int) ≤ (images.length : Int) by omega)]
        refine wC_map (keepX w) (catD (.str w)) (by simp; omega) (fun z hz => ?_) ?_
        · rw [abcd_str] at hz
          obtain ⟨c, hc, rfl⟩ := List.mem_map.mp hz
          simp
          refine ⟨by omega, lawends_ok (by simp; omega) ?_⟩
          simp [keepX, catD]
          exact fun _ => by omega
        · rw [abcd_str, next_one_str]
          have hn1 := next_len hn4 (rows.take j)
          have hn2 := next_len hn4 [w]
          have hn3 : (rows.take j).length ≤ 262144 := by rw [List.length_take]; omega
          simp at hn2
          rw [Nat.zero_add, ej, next_append]
          simp
          omega
      · obtain ⟨o3, rfl⟩ := hP
        simp
        refine wR_inv (fun j ρ => (∀ k w, k < j → (next images.length rows)[k]? = some w → hasSq (img images w) = false) ∧ ∃ o3, ρ = [some (.d (.tup (images.map .str))), a, b, some (.d (.lst ((next images.length rows).map .str))), e, some (.d (.int (1 + (i : Int)))), some (.d (.lst ((next images.length rows).map .str))), o3, none, none]) (k := 0) ⟨fun k w hk => by omega, _, rfl⟩ (fun j x ρ hx hP => ?_) fun ρ hP => ?_
        · obtain ⟨hno, o3, rfl⟩ := hP
          obtain ⟨w, hw, rfl⟩ := map_at hx
          have hwm : w ∈ next images.length rows := List.mem_of_getElem? hw
          have hwl := hR'.l w hwm
          simp
          refine limage_ok hI.n0 hi100 hl4 (by omega) (hR'.c w hwm) ?_
          simp
          have := hI.img_le (w := w) (by omega)
          refine lawhas_ok (by omega) ?_
          simp
          split
          · rename_i hs
            rw [find_at hw (fun k y hk hy => hno k y (by omega) hy) hs] at hb
            exact h1 w _ hb
          · rename_i hs
            intro k y hk hy
            by_cases hkj : k = j
            · subst hkj
              rw [hw] at hy
              cases hy
              simpa using hs
            · exact hno k y (by omega) hy
        · obtain ⟨hno, o3, rfl⟩ := hP
          rw [find_no (fun k y hk hy => hno k y (by simp; omega) hy)] at hb
          exact ⟨next images.length rows, _, _, _, _, by rw [Nat.zero_add]; exact hR', by rw [Nat.zero_add]; exact hb, rfl, .inr rfl⟩
  · obtain ⟨rows, o, o1, o2, o3, hR, hb, rfl, ho⟩ := hP
    simp at hb
    rw [brkGo] at hb
    exact h0 _ hb
theorem lbreak_ok {images : List (List Nat)} (hI : Ims images) {Q : RV → List SV → Prop} (h : Q (.d (optD (brkGo images (bnd images).toNat [[]]))) [.d (.tup (images.map .str))]) : wF F__law_break [.d (.tup (images.map .str))] Q := by
  obtain ⟨h1, h2, h3, h4⟩ := lohi hI
  have hn4 := hI.n4
  have hi100 : ∀ u ∈ images, u.length ≤ 100 := fun u hu => Nat.le_trans (hI.len u hu) (by omega)
  have hb := bnd_le hI
  unfold F__law_break
  rw [wF_run]
  unfold B__law_break
  simp
  refine wC_map (fun _ => true) lenX (by simp; omega) (fun x hx => ?_) ?_
  · obtain ⟨w, hw, rfl⟩ := List.mem_map.mp hx
    have := hI.len w hw
    simp [lenX]
    omega
  rw [lens_map]
  simp [min_im hI.n0]
  refine wC_map (fun _ => true) lenX (by simp; omega) (fun x hx => ?_) ?_
  · obtain ⟨w, hw, rfl⟩ := List.mem_map.mp hx
    have := hI.len w hw
    simp [lenX]
    omega
  rw [lens_map]
  simp [max_im hI.n0]
  have hm : ∀ n : Nat, (n : Int) = bnd images → ∀ e : Option SV, wR (bName 5) LB (List.map (fun k : Nat => D.int (1 + (k : Int))) (List.range n)) [some (.d (.tup (images.map .str))), some (.d (.int (loI images))), some (.d (.int (hiI images))), some (.own false [.str []]), e, none, none, none, none, none] (thenS (sRet (bC D.non)) fun fl ρ =>
            oq (fin fl ρ) fun r => oq (some [SV.d (D.tup (List.map D.str images))]) fun as => Q r as) := fun n hn e => by
    rw [← hn, Int.toNat_natCast] at h
    refine lbreak_loop hI (by omega) _ _ _ (fun w ρ hw => ?_) fun ρ hw => ?_
    · rw [hw] at h
      simpa [optD] using h
    · rw [hw] at h
      simpa [optD] using h
  split
  · rename_i hz
    exact hm 3 (by unfold bnd; rw [if_pos hz]; rfl) _
  · rename_i hz
    have e : bnd images = if 3 < 1 - (3 - hiI images) / loI images then 1 - (3 - hiI images) / loI images else 3 := by
      unfold bnd
      rw [if_neg hz]
    rw [← e]
    refine ⟨by omega, by omega, ?_⟩
    exact hm (bnd images).toNat (by omega) _
end K52
namespace K52
open PySem PySem.Spec PyProof.Rows L2 TL M
theorem letters_ok {w : List Nat} {m : Nat} (hm : m ≤ 4) (hl : w.length ≤ 12) (hw : ∀ c ∈ w, c ∈ abcd m) {Q : RV → List SV → Prop} (h : Q (.d (.bl true)) [.d (.str w), .d (.int m), .d (.int 12)]) : wF F_is_letters [.d (.str w), .d (.int m), .d (.int 12)] Q := by
  unfold F_is_letters
  rw [wF_run]
  unfold B_is_letters
  have e0 : ((12 : Int) < w.length) = False := eq_false (by omega)
  simp [e0]
  refine ⟨by omega, wC_map (fun _ => true) (fun _ => .bl true) (by simp; omega) (fun x hx => ?_) ?_⟩
  · obtain ⟨c, hc, rfl⟩ := List.mem_map.mp hx
    simp [cutL_to (show (0 : Int) ≤ m by omega)]
    exact hw c hc
  · have e : ((w.map fun c => D.str [c]).filter fun _ => true).map (fun _ => D.bl true) = (w.map fun _ => true).map .bl := by
      rw [List.filter_eq_self.mpr (by simp), List.map_map, List.map_map]
      rfl
    rw [e]
    simp
    have ea := allD_lst (w.map fun _ => true)
    rw [List.map_map] at ea
    have et : (w.all fun _ => true) = true := by simp
    rw [ea]
    simp
    rw [et]
    exact h
def flds (images : List (List Nat)) : List (Str × D) := [("images", .tup (images.map .str)), ("letters", .int images.length)]
theorem morph_ok {images : List (List Nat)} (hI : Ims images) : g_Morphism [.tup (images.map .str)] = some (flds images) := by
  have hn4 := hI.n4
  have hn0 : 0 < images.length := List.length_pos_iff.mpr hI.n0
  have hg : gI 3 1 B_Morphism [.tup (images.map .str)] = some (flds images) := by
    refine gI_of rfl fun o => runI_of ?_
    unfold B_Morphism
    have e0 : ((1 : Int) ≤ images.length) = True := eq_true (by omega)
    have e1 : ((images.length : Int) ≤ 4) = True := eq_true (by omega)
    simp [e0, e1]
    refine wC_map (fun _ => true) (fun _ => .bl true) (by simp; omega) (fun x hx => ?_) ?_
    · obtain ⟨w, hw, rfl⟩ := List.mem_map.mp hx
      simp
      refine letters_ok hn4 (hI.len w hw) (hI.let' w hw) ?_
      simp
    · have e : ((images.map D.str).filter fun _ => true).map (fun _ => D.bl true) = (images.map fun _ => true).map .bl := by
        rw [List.filter_eq_self.mpr (by simp), List.map_map, List.map_map]
        rfl
      have ea := allD_lst (images.map fun _ => true)
      rw [e]
      simp
      rw [List.map_map] at ea
      rw [ea]
      simp
      exact ⟨by show 1 < 1000; decide, rfl⟩
  unfold g_Morphism gIn
  rw [hg]
  rfl
def letD : D → D
  | .int k => .str [[97, 98, 99, 100].getD k.toNat 0]
  | _ => .non
theorem free_ok {n : Nat} {b : List D} {m k : Nat} {Q : RV → List SV → Prop} (hb : Box n b) (hn : n + 1000 ≤ 1000000000) (h1 : m ≤ 4) (hk : k ≤ 90) (h : ∀ w b', Box (n + 1000) b' → w.length ≤ k → Q (.d (.str w)) [.own true b', .d (.int m), .d (.int k)]) : wF F__law_free [.own true b, .d (.int m), .d (.int k)] Q := by
  unfold F__law_free
  rw [wF_run]
  unfold B__law_free
  simp
  refine ⟨by omega, wR_inv (fun i ρ => ∃ b2 w o4 o5, Box (n + 10 * i) b2 ∧ w.length ≤ i ∧ ρ = [some (.own true b2), some (.d (.int m)), some (.d (.int k)), some (.d (.str w)), o4, o5, none, none]) (k := 0) ⟨b, [], _, _, hb, by simp, rfl⟩ (fun i x ρ hx hP => ?_) fun ρ hP => ?_⟩
  · obtain ⟨b2, w, o4, o5, hb2, hw, rfl⟩ := hP
    obtain ⟨hi, rfl⟩ := range_at hx
    simp
    refine mixed_ok hb2 (by omega) h1 fun ks b3 hb3 hl3 hk3 => ?_
    simp
    refine wC_map (fun _ => true) letD (by simp; omega) (fun x hx => ?_) ?_
    · obtain ⟨k, hk, rfl⟩ := List.mem_map.mp hx
      have := hk3 k hk
      simp
      rw [M.atI_nat (by simp; omega)]
      have hk4 : k < 4 := by omega
      simp [letD, hk4]
    have e1 : ((ks.map fun (k : Nat) => D.int (k : Int)).filter fun _ => true).map letD = (ks.map fun k => [97, 98, 99, 100].getD k 0).map fun c => D.str [c] := by
      rw [List.filter_eq_self.mpr (by simp), List.map_map, List.map_map]
      rfl
    rw [e1]
    generalize hcs : (ks.map fun k => [97, 98, 99, 100].getD k 0) = cs
    have hcl : cs.length ≤ 4 := by rw [← hcs]; simp; omega
    have hcc : ∀ c ∈ cs, c < 1114112 := fun c hc => by
      rw [← hcs] at hc
      obtain ⟨k, hk, rfl⟩ := List.mem_map.mp hc
      have := hk3 k hk
      have : k = 0 ∨ k = 1 ∨ k = 2 ∨ k = 3 := by omega
      rcases this with rfl | rfl | rfl | rfl <;> simp
    simp only [Nat.zero_add] at hb2 hb3 hw ⊢
    simp
    refine wC_map (keepX w) id (by simp; omega) (fun x hx => ?_) ?_
    · obtain ⟨c, hc, rfl⟩ := List.mem_map.mp hx
      simp
      refine ⟨by omega, lawends_ok (by simp; omega) ?_⟩
      simp [keepX]
    rw [List.filter_map]
    generalize hds : cs.filter (keepX w ∘ fun c => D.str [c]) = ds
    have hdd : ∀ c ∈ ds, c < 1114112 := fun c hc => by
      rw [← hds] at hc
      exact hcc c ((List.mem_filter.mp hc).1)
    have hok : okD (.lst (ds.map fun c => D.str [c])) = true := by
      have := okD_lst_strs (l := ds.map fun c => [c]) (fun u hu c hc => by
        obtain ⟨d, hd, rfl⟩ := List.mem_map.mp hu
        simp at hc
        subst hc
        exact hdd _ hd)
      rw [List.map_map] at this
      exact this
    rw [List.map_id]
    cases ds with
    | nil =>
      simp
      exact h w b3 (hb3.mono (by omega)) (by omega)
    | cons d ds =>
      have e2 := eqD_lst_nil hok
      simp at e2
      simp [e2]
      exact ⟨by omega, hb3.mono (by omega), hw⟩
  · obtain ⟨b2, w, o4, o5, hb2, hw, rfl⟩ := hP
    simp at hw
    simp
    exact h w b2 (hb2.mono (by simp; omega)) hw
end K52
namespace K52
open PySem PySem.Spec PyProof.Rows L2 TL M
@[simp] theorem inD_t2 {v a b : Int} : inD (.int v) (.tup [.int a, .int b]) = some (.d (.bl (decide (v = a ∨ v = b)))) := by
  simp only [inD, inB, flatD, memB, toV, inV, eqV, List.all_cons, List.all_nil, List.map_cons, List.map_nil, List.any_cons, List.any_nil, Bool.and_self, Bool.true_and, if_true, Option.map_some, Bool.or_false]
  have e : ∀ a : Int, (a == v) = decide (v = a) := fun a => by
    by_cases h : a = v
    · subst h; simp
    · have h' : ¬ v = a := fun z => h z.symm
      simp [h, h']
  simp [e]
@[simp] theorem inD_t3 {v a b c : Int} : inD (.int v) (.tup [.int a, .int b, .int c]) = some (.d (.bl (decide (v = a ∨ v = b ∨ v = c)))) := by
  simp only [inD, inB, flatD, memB, toV, inV, eqV, List.all_cons, List.all_nil, List.map_cons, List.map_nil, List.any_cons, List.any_nil, Bool.and_self, Bool.true_and, if_true, Option.map_some, Bool.or_false]
  have e : ∀ a : Int, (a == v) = decide (v = a) := fun a => by
    by_cases h : a = v
    · subst h; simp
    · have h' : ¬ v = a := fun z => h z.symm
      simp [h, h']
  simp [e]
theorem mulT_1 {m : Nat} (h : 1 ≤ m) (h' : m ≤ 1000) : mulT (.tup [.str []]) (.int m) = some (.d (.tup ((List.replicate m ([] : List Nat)).map .str))) := by
  have e : (List.replicate m [D.str []]).flatten = (List.replicate m ([] : List Nat)).map .str := by
    clear h h'
    induction m with
    | zero => rfl
    | succ m ih => simp [List.replicate_succ, ih]
  unfold mulT
  simp [e]
  omega
theorem wS_mid {f g : Sx} {ρ : Sl} {Q : Fl → Sl → Prop} (P : Sl → Prop) (h : wS f ρ fun fl ρ1 => isNx fl (P ρ1)) (h' : ∀ ρ1, P ρ1 → wS g ρ1 Q) : wS (sSeq f g) ρ Q := by
  rw [wS_Seq]
  refine h.imp fun fl ρ1 q => ?_
  cases fl with
  | nx => exact h' ρ1 q
  | bk => exact q.elim
  | ct => exact q.elim
  | rt r => exact q.elim
def KN : List (List (List Nat)) := [[[97, 98, 99, 97, 98], [97, 99, 97, 98, 99, 98], [97, 99, 98, 99, 97, 99, 98]], [[97, 98, 99, 98, 97, 99, 98, 99, 97, 98, 99, 98, 97], [98, 99, 97, 99, 98, 97, 99, 97, 98, 99, 97, 99, 98], [99, 97, 98, 97, 99, 98, 97, 98, 99, 97, 98, 97, 99]], [[97, 98, 99], [98, 99, 97], [99, 97, 98]], [[97, 98, 97, 99, 97, 98, 99, 97, 99, 98, 97, 98, 99, 98, 97, 99], [97], [98]], [[97, 98, 99, 97, 99, 98, 97, 98, 99, 98], [97, 98, 99, 98, 97, 99, 97, 98, 99, 98], [97, 98, 99, 98, 97, 99, 98, 99, 97, 99]], [[98], [99], [97]], [[97, 98, 99, 100], [98, 97, 100, 99], [99, 100, 97, 98], [100, 99, 98, 97]], [[97, 98, 99, 98], [97, 99, 98, 99]], [[97, 98, 97, 99, 98], [97, 98, 99, 97, 99, 98]]]
structure Raw (images : List (List Nat)) : Prop where
  n0 : images ≠ []
  n4 : images.length ≤ 4
  len : ∀ u ∈ images, u.length ≤ 100
theorem KN_ok {im : List (List Nat)} (h : im ∈ KN) : (im ≠ [] ∧ im.length ≤ 4 ∧ 2 ≤ im.length) ∧ (∀ u ∈ im, u.length ≤ 16) ∧ ∀ u ∈ im, ∀ c ∈ u, c ∈ abcd 4 := by
  have : ∀ im ∈ KN, (im ≠ [] ∧ im.length ≤ 4 ∧ 2 ≤ im.length) ∧ (∀ u ∈ im, u.length ≤ 16) ∧ ∀ u ∈ im, ∀ c ∈ u, c ∈ abcd 4 := by decide
  exact this im h
def MI (n : Nat) (ρ : Sl) : Prop := ∃ (b : List D) (v : Int) (m : Nat) (im : List (List Nat)) (kn o5 o6 : Option SV), Box n b ∧ 0 ≤ v ∧ v < 9 ∧ 1 ≤ m ∧ m ≤ 4 ∧ Raw im ∧ (v ≤ 4 ∨ im ∈ KN) ∧ ρ = [some (.own true b), some (.d (.int v)), kn, some (.d (.tup (im.map .str))), some (.d (.int m)), o5, o6, none, none, none, none]
theorem MI.mono {n m : Nat} {ρ : Sl} (h : MI n ρ) (hm : n ≤ m) : MI m ρ := by
  obtain ⟨b, v, k, im, kn, o5, o6, hb, r⟩ := h
  exact ⟨b, v, k, im, kn, o5, o6, hb.mono hm, r⟩
def MJ (n : Nat) (ρ : Sl) : Prop := ∃ (b : List D) (v : Int) (im : List (List Nat)) (o2 o4 o5 o6 : Option SV), Box n b ∧ Raw im ∧ (v = 6 ∨ v = 7 → im ∈ KN) ∧ ρ = [some (.own true b), some (.d (.int v)), o2, some (.d (.tup (im.map .str))), o4, o5, o6, none, none, none, none]
def M9 (n : Nat) (ρ : Sl) : Prop := ∃ (b : List D) (im : List (List Nat)) (o1 o2 o4 o5 o6 : Option SV), Box n b ∧ Raw im ∧ ρ = [some (.own true b), o1, o2, some (.d (.tup (im.map .str))), o4, o5, o6, none, none, none, none]
theorem loI_pos {images : List (List Nat)} : 0 ≤ loI images := by
  cases images with
  | nil => exact Int.le_refl 0
  | cons u us =>
    have h2 := min_le (us.map fun u => (u.length : Int)) u.length (by omega) (fun k hk => by
      obtain ⟨v, _, rfl⟩ := List.mem_map.mp hk
      omega)
    exact h2.1
def strF (f : List Nat → List Nat) : D → D
  | .str u => .str (f u)
  | _ => .non
theorem strF_map (f : List Nat → List Nat) (im : List (List Nat)) : (((im.map D.str).filter fun _ => true).map (strF f)) = (im.map f).map .str := by
  rw [List.filter_eq_self.mpr (by simp), List.map_map, List.map_map]
  rfl
def inX (l : List Nat) : D → Bool
  | .str [c] => decide (c ∈ l)
  | _ => false
theorem keep_map (l u : List Nat) : (((u.map fun c => D.str [c]).filter (inX l)).map id) = (u.filter fun c => decide (c ∈ l)).map fun c => D.str [c] := by
  rw [List.map_id, List.filter_map]
  rfl
theorem images_ok {n : Nat} {b : List D} {Q : RV → List SV → Prop} (hb : Box n b) (hn : n + 100000 ≤ 1000000000) (h : ∀ im b', Box (n + 100000) b' → Ims im → Q (.d (.tup (im.map .str))) [.own true b']) : wF F__law_images [.own true b] Q := by
  unfold F__law_images
  rw [wF_run]
  refine ⟨rfl, ?_⟩
  unfold B__law_images
  refine wS_mid (fun ρ => ∃ b2 v, Box (n + 1) b2 ∧ 0 ≤ v ∧ v < 9 ∧ ρ = [some (.own true b2), some (.d (.int v)), none, none, none, none, none, none, none, none, none]) ?_ fun ρ hP => ?_
  · simp
    refine take_ok hb (by omega) (by omega) (by omega) fun v b1 hb1 h0 h1 => ?_
    simp
    exact ⟨b1, hb1, v, h0, h1, rfl, rfl⟩
  obtain ⟨b2, v, hb2, hv0, hv1, rfl⟩ := hP
  refine wS_mid (fun ρ => ρ = [some (.own true b2), some (.d (.int v)), some (.own false (KN.map fun im => .tup (im.map .str))), none, none, none, none, none, none, none, none]) ?_ fun ρ hP => ?_
  · simp
    rfl
  subst hP
  have hK : (KN.map fun im => D.tup (im.map .str)).length = 9 := rfl
  refine wS_mid (fun ρ => ∃ b3 im, Box (n + 2) b3 ∧ im ∈ KN ∧ ρ = [some (.own true b3), some (.d (.int v)), some (.own false (KN.map fun im => .tup (im.map .str))), some (.d (.tup (im.map .str))), none, none, none, none, none, none, none]) ?_ fun ρ hP => ?_
  · generalize hG : (KN.map fun im => D.tup (im.map .str)) = G at hK ⊢
    simp [hK]
    refine take_ok hb2 (by omega) (by omega) (by omega) fun u b3 hb3 h0 h1 => ?_
    simp
    obtain ⟨u, rfl⟩ := Int.eq_ofNat_of_zero_le h0
    have hu : u < KN.length := by show u < 9; omega
    have e : G[u]? = some (.tup (KN[u].map .str)) := by
      rw [← hG, List.getElem?_map, List.getElem?_eq_getElem hu]
      rfl
    have e2 : atI G (u : Int) = some (.tup (KN[u].map .str)) := by
      rw [M.atI_nat (by omega)]
      rw [List.getElem?_eq_getElem (by omega)] at e
      exact e
    rw [e2]
    simp
    exact ⟨b3, hb3, KN[u], List.getElem_mem hu, rfl, rfl⟩
  obtain ⟨b3, im, hb3, him, rfl⟩ := hP
  refine wS_mid (MI (n + 3)) ?_ fun ρ hP => ?_
  · simp
    refine take_ok hb3 (by omega) (by omega) (by omega) fun u b4 hb4 h0 h1 => ?_
    obtain ⟨u, rfl⟩ := Int.eq_ofNat_of_zero_le h0
    have e1 : 1 + (u : Int) = ((1 + u : Nat) : Int) := by omega
    simp
    rw [e1]
    obtain ⟨⟨k1, k2, k3⟩, k4, k5⟩ := KN_ok him
    exact ⟨b4, v, 1 + u, im, _, _, _, hb4, hv0, hv1, by omega, by omega, ⟨k1, k2, fun u hu => Nat.le_trans (k4 u hu) (by omega)⟩, .inr him, rfl⟩
  clear hb2 hb3 him hv0 hv1
  refine wS_mid (MI (n + 3)) ?_ fun ρ hP => ?_
  · obtain ⟨b, v, m, im, kn, o5, o6, hb, hv0, hv1, hm1, hm4, hR, hK, rfl⟩ := hP
    simp
    split
    · rename_i hv
      rw [mulT_1 hm1 (by omega)]
      simp
      refine ⟨b, v, m, List.replicate m [], kn, o5, o6, hb, hv0, hv1, hm1, hm4, ⟨by simp; omega, by simp; omega, fun u hu => ?_⟩, .inl (by omega), by simp⟩
      rw [(List.mem_replicate.mp hu).2]
      simp
    · exact ⟨b, v, m, im, kn, o5, o6, hb, hv0, hv1, hm1, hm4, hR, hK, rfl⟩
  refine wS_mid (MI (n + 6000)) ?_ fun ρ hP => ?_
  · obtain ⟨b, v, m, im, kn, o5, o6, hb, hv0, hv1, hm1, hm4, hR, hK, rfl⟩ := hP
    simp
    split
    · rename_i hv
      refine take_ok hb (by omega) (by omega) (by omega) fun s b1 hb1 hs0 hs1 => ?_
      obtain ⟨s, rfl⟩ := Int.eq_ofNat_of_zero_le hs0
      simp
      refine ⟨by omega, wC_inv (fun i acc ρ => ∃ b2 ws, Box (n + 4 + 1001 * i) b2 ∧ acc = ws.map D.str ∧ ws.length = i ∧ (∀ w ∈ ws, w.length ≤ 90) ∧ ρ = [some (.own true b2), some (.d (.int v)), kn, some (.d (.tup (im.map .str))), some (.d (.int m)), some (.d (.int (2 + (s : Int)))), o6, none, none, none, none]) (k := 0) ⟨b1, [], hb1, rfl, rfl, by simp, rfl⟩ (fun i x acc ρ hx hP => ?_) fun acc ρ hP => ?_⟩
      · obtain ⟨b2, ws, hb2, rfl, hl, hw, rfl⟩ := hP
        obtain ⟨hi, rfl⟩ := range_at hx
        have hi : i < m := by omega
        simp only [Nat.zero_add] at hb2 hl
        simp
        refine take_ok hb2 (by omega) (by omega) (by omega) fun u b3 hb3 hu0 hu1 => ?_
        obtain ⟨u, rfl⟩ := Int.eq_ofNat_of_zero_le hu0
        simp
        have e : 2 + (s : Int) + (u : Int) = ((2 + s + u : Nat) : Int) := by omega
        rw [e]
        refine free_ok hb3 (by omega) hm4 (by omega) fun w b4 hb4 hwl => ?_
        simp
        refine ⟨by omega, b4, hb4.mono (by omega), ws ++ [w], by simp, by simp; omega, fun y hy => ?_, rfl⟩
        rcases List.mem_append.mp hy with hy | hy
        · exact hw y hy
        · simp at hy; subst hy; omega
      · obtain ⟨b2, ws, hb2, rfl, hl, hw, rfl⟩ := hP
        simp at hl
        simp
        refine ⟨b2, v, m, ws, _, _, _, hb2.mono (by simp; omega), hv0, hv1, hm1, hm4, ⟨fun z => ?_, by omega, fun u hu => Nat.le_trans (hw u hu) (by omega)⟩, .inl (by omega), rfl⟩
        rw [z] at hl
        simp at hl
        omega
    · exact ⟨b, v, m, im, kn, o5, o6, hb.mono (by omega), hv0, hv1, hm1, hm4, hR, hK, rfl⟩
  refine wS_mid (MI (n + 12000)) ?_ fun ρ hP => ?_
  · obtain ⟨b, v, m, im, kn, o5, o6, hb, hv0, hv1, hm1, hm4, hR, hK, rfl⟩ := hP
    simp
    split
    · rename_i hv
      refine ⟨by omega, wC_inv (fun i acc ρ => ∃ b2 ws, Box (n + 6000 + 1000 * i) b2 ∧ acc = ws.map D.str ∧ ws.length = i ∧ (∀ w ∈ ws, w.length ≤ 90) ∧ ρ = [some (.own true b2), some (.d (.int v)), kn, some (.d (.tup (im.map .str))), some (.d (.int m)), o5, o6, none, none, none, none]) (k := 0) ⟨b, [], hb, rfl, rfl, by simp, rfl⟩ (fun i x acc ρ hx hP => ?_) fun acc ρ hP => ?_⟩
      · obtain ⟨b2, ws, hb2, rfl, hl, hw, rfl⟩ := hP
        obtain ⟨hi, rfl⟩ := range_at hx
        have hi : i < m := by omega
        simp only [Nat.zero_add] at hb2 hl
        simp
        refine drawn_ok (k := 4) hb2 (by omega) (by omega) hm4 (by omega) fun w b4 hb4 hwl => ?_
        simp
        refine ⟨by omega, b4, hb4.mono (by omega), ws ++ [w], by simp, by simp; omega, fun y hy => ?_, rfl⟩
        rcases List.mem_append.mp hy with hy | hy
        · exact hw y hy
        · simp at hy; subst hy; omega
      · obtain ⟨b2, ws, hb2, rfl, hl, hw, rfl⟩ := hP
        simp at hl
        simp
        refine ⟨b2, v, m, ws, _, _, _, hb2.mono (by simp; omega), hv0, hv1, hm1, hm4, ⟨fun z => ?_, by omega, fun u hu => Nat.le_trans (hw u hu) (by omega)⟩, .inl (by omega), rfl⟩
        rw [z] at hl
        simp at hl
        omega
    · exact ⟨b, v, m, im, kn, o5, o6, hb.mono (by omega), hv0, hv1, hm1, hm4, hR, hK, rfl⟩
  refine wS_mid (MJ (n + 12000)) ?_ fun ρ hP => ?_
  · obtain ⟨b, v, m, im, kn, o5, o6, hb, hv0, hv1, hm1, hm4, hR, hK, rfl⟩ := hP
    simp
    split
    · rename_i hv
      have him : im ∈ KN := hK.resolve_left (by omega)
      obtain ⟨⟨k1, k2, k3⟩, k4, k5⟩ := KN_ok him
      have h100 := hR.len
      have hgo : ∀ ws : List (List Nat), ws.length ≤ 4 → ws ≠ [] → (∀ w ∈ ws, w.length ≤ 1) → (∀ w ∈ ws, ∀ c ∈ w, c ∈ abcd im.length) → wC [10] (bName 10) bYes (bCall F__law_image (aCons (bFz (bV 3)) (aCons (bFz (bV 10)) aNil))) (ws.map .str) [] [some (.own true b), some (.d (.int v)), kn, some (.d (.tup (im.map .str))), some (.d (.int m)), o5, o6, none, none, none, none] fun ys ρ2 => ys = (ws.map (img im)).map .str ∧ ρ2 = [some (.own true b), some (.d (.int v)), kn, some (.d (.tup (im.map .str))), some (.d (.int m)), o5, o6, none, none, none, none] := fun ws w1 w2 w3 w4 => by
        refine wC_map (fun _ => true) (strF (img im)) (by simp; omega) (fun x hx => ?_) ?_
        · obtain ⟨w, hw, rfl⟩ := List.mem_map.mp hx
          simp
          refine limage_ok k1 h100 k5 (by have := w3 w hw; omega) (w4 w hw) ?_
          simp [strF]
        · rw [strF_map]
          exact ⟨rfl, rfl⟩
      have hraw : ∀ ws : List (List Nat), ws.length ≤ 4 → ws ≠ [] → (∀ w ∈ ws, w.length ≤ 1) → Raw (ws.map (img im)) := fun ws w1 w2 w3 => by
        refine ⟨by simpa using w2, by simpa using w1, fun u hu => ?_⟩
        obtain ⟨w, hw, rfl⟩ := List.mem_map.mp hu
        have := img_len k4 w
        have := w3 w hw
        omega
      have hL : im.length = 2 ∨ im.length = 3 ∨ im.length = 4 := by omega
      rcases hL with hL | hL | hL
      · rw [hL] at hgo ⊢
        simp
        refine okQ.imp (hgo [[98], [97]] (by decide) (by decide) (by decide) (by decide)) fun ys ρ2 hq => ?_
        obtain ⟨rfl, rfl⟩ := hq
        simp
        exact ⟨b, v, [[98], [97]].map (img im), _, _, _, _, hb, hraw _ (by decide) (by decide) (by decide), fun z => by omega, by simp; exact ⟨rfl, rfl, rfl, rfl⟩⟩
      · rw [hL] at hgo ⊢
        simp
        refine okQ.imp (hgo [[98], [99], [97]] (by decide) (by decide) (by decide) (by decide)) fun ys ρ2 hq => ?_
        obtain ⟨rfl, rfl⟩ := hq
        simp
        exact ⟨b, v, [[98], [99], [97]].map (img im), _, _, _, _, hb, hraw _ (by decide) (by decide) (by decide), fun z => by omega, by simp; exact ⟨rfl, rfl, rfl, rfl⟩⟩
      · rw [hL] at hgo ⊢
        simp
        refine okQ.imp (hgo [[100], [98], [99], [97]] (by decide) (by decide) (by decide) (by decide)) fun ys ρ2 hq => ?_
        obtain ⟨rfl, rfl⟩ := hq
        simp
        exact ⟨b, v, [[100], [98], [99], [97]].map (img im), _, _, _, _, hb, hraw _ (by decide) (by decide) (by decide), fun z => by omega, by simp; exact ⟨rfl, rfl, rfl, rfl⟩⟩
    · exact ⟨b, v, im, _, _, _, _, hb, hR, fun hv => hK.resolve_left (by omega), rfl⟩
  refine wS_mid (M9 (n + 13000)) ?_ fun ρ hP => ?_
  · obtain ⟨b, v, im, o2, o4, o5, o6, hb, hR, hK, rfl⟩ := hP
    simp
    split
    · rename_i hv
      have him : im ∈ KN := hK hv
      obtain ⟨⟨k1, k2, k3⟩, k4, k5⟩ := KN_ok him
      refine take_ok hb (by omega) (by omega) (by omega) fun s b1 hb1 hs0 hs1 => ?_
      obtain ⟨s, rfl⟩ := Int.eq_ofNat_of_zero_le hs0
      have hs : s < im.length := by omega
      simp
      rw [M.atI_nat (by simpa using hs)]
      simp [cutL_to (show (0 : Int) ≤ s by omega), cutL_from (show (0 : Int) ≤ (s : Int) + 1 by omega)]
      refine near_ok hb1 (by omega) (by omega) k2 (by have := k4 _ (List.getElem_mem hs); omega) fun u b4 hb4 hul => ?_
      have hu := k4 _ (List.getElem_mem hs)
      simp [cutL_to (show (0 : Int) ≤ s by omega), cutL_from (show (0 : Int) ≤ (s : Int) + 1 by omega)]
      refine ⟨by omega, by omega, b4, im.take s ++ u :: im.drop (s + 1), _, o2, o4, o5, _, hb4.mono (by omega), ⟨by simp, by simp; omega, fun w hw => ?_⟩, by simp; exact ⟨rfl, rfl⟩⟩
      rcases List.mem_append.mp hw with hw | hw
      · have := k4 w (List.mem_of_mem_take hw)
        omega
      · rcases List.mem_cons.mp hw with hw | hw
        · subst hw; omega
        · have := k4 w (List.mem_of_mem_drop hw)
          omega
    · exact ⟨b, im, _, _, _, _, _, hb.mono (by omega), hR, rfl⟩
  obtain ⟨b, im, o1, o2, o4, o5, o6, hb, hR, rfl⟩ := hP
  have hn4 := hR.n4
  refine wS_mid (fun ρ => ρ = [some (.own true b), o1, o2, some (.d (.tup ((im.map (List.take 12)).map .str))), o4, o5, o6, none, none, none, none]) ?_ fun ρ hP => ?_
  · simp
    refine wC_map (fun _ => true) (strF (List.take 12)) (by simp; omega) (fun x hx => ?_) ?_
    · obtain ⟨w, hw, rfl⟩ := List.mem_map.mp hx
      have := hR.len w hw
      simp [cutL_to (show (0 : Int) ≤ 12 by omega), strF]
      omega
    · rw [strF_map]
      simp
  subst hP
  have h12 : ∀ u ∈ im.map (List.take 12), u.length ≤ 12 := fun u hu => by
    obtain ⟨w, hw, rfl⟩ := List.mem_map.mp hu
    simp
    omega
  have hl1 : (im.map (List.take 12)).length ≤ 4 := by simpa using hn4
  have hne1 : im.map (List.take 12) ≠ [] := by simpa using hR.n0
  generalize im.map (List.take 12) = im1 at h12 hl1 hne1 ⊢
  simp [cutL_to (show (0 : Int) ≤ (im1.length : Int) by omega)]
  refine wC_map (fun _ => true) (strF fun u => u.filter fun c => decide (c ∈ abcd im1.length)) (by simp; omega) (fun x hx => ?_) ?_
  · obtain ⟨w, hw, rfl⟩ := List.mem_map.mp hx
    have := h12 w hw
    simp [cutL_to (show (0 : Int) ≤ (im1.length : Int) by omega)]
    refine wC_map (inX (abcd im1.length)) id (by simp; omega) (fun x hx => ?_) ?_
    · obtain ⟨c, hc, rfl⟩ := List.mem_map.mp hx
      simp [inX]
      exact Iff.rfl
    · rw [keep_map]
      have := List.length_filter_le (fun c => decide (c ∈ abcd im1.length)) w
      simp
      rw [join_signs (by omega)]
      simp [strF]
  rw [strF_map]
  have h12' : ∀ u ∈ im1.map (fun u => u.filter fun c => decide (c ∈ abcd im1.length)), u.length ≤ 12 ∧ ∀ c ∈ u, c ∈ abcd im1.length := fun u hu => by
    obtain ⟨w, hw, rfl⟩ := List.mem_map.mp hu
    have := List.length_filter_le (fun c => decide (c ∈ abcd im1.length)) w
    have := h12 w hw
    exact ⟨by omega, fun c hc => by simpa using (List.mem_filter.mp hc).2⟩
  have hl2 : (im1.map (fun u => u.filter fun c => decide (c ∈ abcd im1.length))).length = im1.length := by simp
  generalize im1.map (fun u => u.filter fun c => decide (c ∈ abcd im1.length)) = im2 at h12' hl2 ⊢
  have hne2 : im2 ≠ [] := fun z => by
    rw [z] at hl2
    exact hne1 (List.eq_nil_of_length_eq_zero hl2.symm)
  simp
  refine wC_map (fun _ => true) lenX (by simp; omega) (fun x hx => ?_) ?_
  · obtain ⟨w, hw, rfl⟩ := List.mem_map.mp hx
    have := (h12' w hw).1
    simp [lenX]
    omega
  rw [lens_map]
  simp [min_im hne2]
  have hpos := loI_pos (images := im2)
  refine wC_map (fun _ => true) (strF fun u => u.take (4 * loI im2).toNat) (by simp; omega) (fun x hx => ?_) ?_
  · obtain ⟨w, hw, rfl⟩ := List.mem_map.mp hx
    have := (h12' w hw).1
    simp [strF, cutL_to (show (0 : Int) ≤ 4 * loI im2 by omega)]
    omega
  rw [strF_map]
  have hfin : Ims (im2.map fun u => u.take (4 * loI im2).toNat) := by
    refine ⟨by simpa using hne2, by simp; omega, fun u hu => ?_, fun u hu c hc => ?_⟩
    · obtain ⟨w, hw, rfl⟩ := List.mem_map.mp hu
      have := (h12' w hw).1
      simp
      omega
    · obtain ⟨w, hw, rfl⟩ := List.mem_map.mp hu
      have := (h12' w hw).2 c (List.mem_of_mem_take hc)
      simpa [hl2] using this
  have := h _ b (hb.mono (by omega)) hfin
  simp
  rw [List.map_map] at this
  exact this
end K52
namespace K52
open PySem PySem.Spec PyProof.Rows L2 TL M
theorem brk_has {images : List (List Nat)} : ∀ {n i : Nat} {rows : List (List Nat)} {w : List Nat}, Ims images → RowOk images.length i rows → brkGo images n rows = some w → (¬ HasSq w ∧ hasSq (img images w) = true) ∧ w.length ≤ i + n ∧ ∀ c ∈ w, c ∈ abcd images.length
  | 0, i, rows, w, hI, hR, h => by cases h
  | n + 1, i, rows, w, hI, hR, h => by
    have hR' := hR.next hI.n4
    rw [brkGo] at h
    split at h
    · rename_i u e
      cases h
      have h1 := List.mem_of_find?_eq_some e
      have h2 := List.find?_some e
      exact ⟨⟨hR'.s _ h1, h2⟩, by rw [hR'.l _ h1]; omega, hR'.c _ h1⟩
    · have := brk_has hI hR' h
      exact ⟨this.1, by omega, this.2.2⟩
def ims1 : List (List (List Nat)) := [[[98], [99], [97]], [[99], [97], [98]], [[98], [97]]]
def ims2 : List (List (List Nat)) := [[[99], [97], [98]], [[98], [99], [97]], [[97], [98]]]
def isNon : Option (RV × List SV) → Bool
  | some (.d .non, _) => true
  | _ => false
theorem isNon_ex {o : Option (RV × List SV)} (h : isNon o = true) : ∃ as, o = some (.d .non, as) := by
  unfold isNon at h
  split at h
  · exact ⟨_, rfl⟩
  · cases h
theorem perm_none {im : List (List Nat)} (h : im = [[98], [99], [97]] ∨ im = [[99], [97], [98]] ∨ im = [[98], [97]] ∨ im = [[97], [98]]) : Ims im ∧ brkGo im (bnd im).toNat [[]] = none := by
  have key : ∀ im : List (List Nat), Ims im → (∃ as, F__law_break [.d (.tup (im.map .str))] = some (.d .non, as)) → Ims im ∧ brkGo im (bnd im).toNat [[]] = none := fun im hI ⟨as, e⟩ => by
    refine ⟨hI, ?_⟩
    have := lbreak_ok hI (Q := fun r as => r = .d (optD (brkGo im (bnd im).toNat [[]]))) rfl
    rw [wF_def, e] at this
    have this : RV.d D.non = .d (optD (brkGo im (bnd im).toNat [[]])) := this
    cases hb : brkGo im (bnd im).toNat [[]] with
    | none => rfl
    | some w => rw [hb] at this; cases this
  rcases h with rfl | rfl | rfl | rfl
  · exact key _ ⟨by decide, by decide, by decide, by decide⟩ (isNon_ex (by decide +kernel))
  · exact key _ ⟨by decide, by decide, by decide, by decide⟩ (isNon_ex (by decide +kernel))
  · exact key _ ⟨by decide, by decide, by decide, by decide⟩ (isNon_ex (by decide +kernel))
  · exact key _ ⟨by decide, by decide, by decide, by decide⟩ (isNon_ex (by decide +kernel))
theorem fl1 (images : List (List Nat)) : (flds images).map (·.1) = (["images", "letters"] : List Str) := rfl
theorem fl2 (images : List (List Nat)) : (flds images).map (·.2) = [.tup (images.map .str), .int images.length] := rfl
theorem opt_cases {im : List (List Nat)} (hI : Ims im) : optD (brkGo im (bnd im).toNat [[]]) = .non ∨ ∃ w, optD (brkGo im (bnd im).toNat [[]]) = .str w ∧ hasSq w = false ∧ hasSq (img im w) = true ∧ w.length ≤ 10 ∧ ∀ c ∈ w, c ∈ abcd im.length := by
  have hb := bnd_le hI
  cases e : brkGo im (bnd im).toNat [[]] with
  | none => exact .inl rfl
  | some w =>
    obtain ⟨⟨h1, h2⟩, h3, h4⟩ := brk_has hI (RowOk.zero _) e
    exact .inr ⟨w, rfl, hasSq_f h1, h2, by omega, h4⟩
def TI (ns : List Int) (o1 o8 : Option SV) (n : Nat) (ρ : Sl) : Prop := ∃ (b : List D) (bn : Bool) (o4 o5 o6 o7 : Option SV), Box n b ∧ ρ = [some (.d (.scr (ns.map .int))), o1, some (.own false b), some (.d (.bl bn)), o4, o5, o6, o7, o8, none]
def LI (ns : List Int) (ρ : Sl) : Prop := ∃ (o1 o2 o3 o4 o5 o6 o7 o8 : Option SV), ρ = [some (.d (.scr (ns.map .int))), o1, o2, o3, o4, o5, o6, o7, o8, none]
theorem law_true (ns : List Int) (h : ns.length ≤ 63) : ∃ as, F_law [.d (.scr (ns.map .int))] = some (.d (.bl true), as) := by
  suffices hw : wF F_law [.d (.scr (ns.map .int))] fun r as => r = .d (.bl true) by
    obtain ⟨r, as, e, rfl⟩ := wF_ex hw
    exact ⟨as, e⟩
  unfold F_law
  rw [wF_run]
  refine ⟨rfl, ?_⟩
  unfold B_law
  refine wS_mid (LI ns) ?_ fun ρ hP => ?_
  rotate_left
  · obtain ⟨o1, o2, o3, o4, o5, o6, o7, o8, rfl⟩ := hP
    simp
  simp
  refine ⟨by split <;> omega, wR_inv (fun i ρ => LI ns ρ) (k := 0) ⟨_, _, _, _, _, _, _, _, rfl⟩ (fun i x ρ hx hP => ?_) fun ρ hP => hP⟩
  obtain ⟨o1, o2, o3, o4, o5, o6, o7, o8, rfl⟩ := hP
  obtain ⟨hi, rfl⟩ := range_at hx
  simp
  refine cell_ok (by omega) fun x => ?_
  simp
  refine box_ok fun b hb => ?_
  simp
  refine take_ok hb (by omega) (by omega) (by omega) fun v b1 hb1 hv0 hv1 => ?_
  simp
  refine wR_inv (fun j ρ => TI ns (some (.d (.int (i : Int)))) o8 (1 + 100000 * j) ρ) (k := 0) ⟨b1, _, _, _, _, _, hb1, rfl⟩ (fun j x ρ hx hP => ?_) fun ρ hP => ?_
  · obtain ⟨b, bn, o4, o5, o6, o7, hb, rfl⟩ := hP
    obtain ⟨hj, rfl⟩ := range_at hx
    simp only [Nat.zero_add] at hb ⊢
    simp
    refine images_ok hb (by omega) fun im b2 hb2 hI => ?_
    simp
    refine lbreak_ok hI ?_
    have hX := opt_cases hI
    have hS := @square_ok im im.length hI
    have hi100 : ∀ u ∈ im, u.length ≤ 100 := fun u hu => Nat.le_trans (hI.len u hu) (by omega)
    have hl4 : ∀ u ∈ im, ∀ c ∈ u, c ∈ abcd 4 := fun u hu c hc => abcd_mono hI.n4 (hI.let' u hu c hc)
    generalize optD (brkGo im (bnd im).toNat [[]]) = X at hX hS ⊢
    have hXp : X = .non ∨ (∃ s, X = .str s ∧ s.length ≤ 16777216) ∨ (∃ i, X = .int i) ∨ ∃ b, X = .bl b := by
      rcases hX with hX | ⟨w, hX, _, _, hl, _⟩
      · exact .inl hX
      · exact .inr (.inl ⟨w, hX, by omega⟩)
    cases bn
    all_goals
      simp [morph_ok hI, fl1, fl2]
      refine hS ?_
      simp [morph_ok hI, fl1, fl2]
      refine hS ?_
      simp
      refine same_list (n := 2) (by simp) (fun y hy Q hQ => ?_) ?_
      · simp at hy
        subst hy
        exact same_plain (n := 1) hXp hQ
      simp
      rcases hX with rfl | ⟨w, rfl, hs1, hs2, hwl, hwc⟩
      · simp
        exact ⟨b2, _, _, _, _, _, hb2.mono (by omega), rfl⟩
      · simp
        refine lawhas_ok (by omega) ?_
        rw [hs1]
        simp
        refine limage_ok hI.n0 hi100 hl4 (by omega) hwc ?_
        simp
        have := hI.img_le (w := w) (by omega)
        refine lawhas_ok (by omega) ?_
        rw [hs2]
        simp
        exact ⟨b2, _, _, _, _, _, hb2.mono (by omega), rfl⟩
  · obtain ⟨b, bn, o4, o5, o6, o7, hb, rfl⟩ := hP
    simp at hb
    simp
    refine take_ok hb (by omega) (by omega) (by omega) fun u b3 hb3 hu0 hu1 => ?_
    simp
    have hu : u = 0 ∨ u = 1 ∨ u = 2 := by omega
    obtain ⟨one, e, hp⟩ : ∃ one : List (List Nat), atI [D.tup [D.str [98], D.str [99], D.str [97]], D.tup [D.str [99], D.str [97], D.str [98]], D.tup [D.str [98], D.str [97]]] u = some (.tup (one.map .str)) ∧ (one = [[98], [99], [97]] ∨ one = [[99], [97], [98]] ∨ one = [[98], [97]]) := by
      rcases hu with rfl | rfl | rfl
      · exact ⟨[[98], [99], [97]], by simp, .inl rfl⟩
      · exact ⟨[[99], [97], [98]], by simp, .inr (.inl rfl)⟩
      · exact ⟨[[98], [97]], by simp, .inr (.inr rfl)⟩
    have p1 : Ims one ∧ brkGo one (bnd one).toNat [[]] = none := perm_none (by rcases hp with h | h | h <;> simp [h])
    have p2 : Ims (one.map (img one)) ∧ brkGo (one.map (img one)) (bnd (one.map (img one))).toNat [[]] = none := perm_none (by
      rcases hp with rfl | rfl | rfl
      · exact .inr (.inl (by decide))
      · exact .inl (by decide)
      · exact .inr (.inr (.inr (by decide))))
    have hlt : ∀ w ∈ one, w.length ≤ 1 ∧ ∀ c ∈ w, c ∈ abcd one.length := by
      rcases hp with rfl | rfl | rfl <;> decide
    have hI := p1.1
    have hi100 : ∀ u ∈ one, u.length ≤ 100 := fun u hu => Nat.le_trans (hI.len u hu) (by omega)
    have hl4 : ∀ u ∈ one, ∀ c ∈ u, c ∈ abcd 4 := fun u hu c hc => abcd_mono hI.n4 (hI.let' u hu c hc)
    have hone4 := hI.n4
    rw [e]
    simp [morph_ok p1.1, fl1, fl2]
    refine square_ok p1.1 ?_
    rw [p1.2]
    simp [optD]
    refine wC_map (fun _ => true) (strF (img one)) (by simp; omega) (fun x hx => ?_) ?_
    · obtain ⟨w, hw, rfl⟩ := List.mem_map.mp hx
      have := hlt w hw
      simp
      refine limage_ok hI.n0 hi100 hl4 (by omega) this.2 ?_
      simp [strF]
    · rw [strF_map]
      have hm := morph_ok p2.1
      have hq := @square_ok _ (one.map (img one)).length p2.1
      rw [p2.2] at hq
      generalize one.map (img one) = two at hm hq ⊢
      simp [hm, fl1, fl2]
      refine hq ?_
      simp [optD]
      exact ⟨_, _, _, _, _, _, _, _, rfl⟩
end K52
namespace K52
open PySem PySem.Spec PyProof.Rows L2 TL M
theorem fin {l : PySem.W.OpenLaw} {w : World} {K : PySem.W.Frag} {h : Heap} {mg : Str → Option Value} {fa f : Addr} (X : K.In h) (G : h.Ns mainGlobals mg) (hfa : mg "law" = some (.ref fa)) (T : Tx K mg) {od an : Option Addr} {sl : Array (Option Value)} {oc kV dc pm cd ct : Value}
    (a : PySem.W.nsIn K mainGlobals "law" = some (some (.ref f)))
    (l1 : K.lookup f = some ⟨oc, od, .func (PySem.W.fnOf "law" "law" (defArgs s_law) (defBody s_law) (defScope s_law) .none kV dc pm an cd ct), sl⟩) (c : PySem.W.codeIn K cd "law" = true) (kp : PySem.W.keepIn K (.ref f) = true) :
    ∃ fd : FuncData, (∀ (s : Shared) (v : Value), BindsTo s fd ⟨[v], []⟩ [("script", v)]) ∧ ∀ base : Heap, K.In base → base.Ns mainGlobals mg → FnOk l.prog w K mg base CX0 6 fa fd ["script"] (spV K F_law) :=
  law_fd X G hfa a l1 c kp (fun s v => .of_eq rfl) fun base f fd F => fok_law T f fd F
end K52
open PySem PySem.W PyProof.Rows
set_option maxRecDepth 100000 in
set_option maxHeartbeats 0 in
theorem PySem.Challenge.cw_stringbench_k52_whole_squares_kept_holds : PySem.Challenge.rw_stringbench_k52_whole_squares_kept.Holds := by
  w_on; o_law; k_head; (case hw => w_witness2)
  k_fill
  refine M.law_walk (l := PySem.Challenge.rw_stringbench_k52_whole_squares_kept) (n := 63) (k := 6) K52.F_law rfl (by decide) rfl ⟨rfl, by decide, by decide⟩ (fun w h Y => PySem.W.kIn_of Y) ?F (fun ns hl => K52.law_true ns hl)
  intro w mg fa h KX G hmg
  refine' K52.fin KX G hmg ?T ?a ?l1 ?c ?kp
  case T =>
    constructor
    · exact M.free_of KX G (by k_is)
    · exact M.free_of KX G (by k_is)
    · exact M.free_of KX G (by k_is)
    · exact M.free_of KX G (by k_is)
    · exact M.free_of KX G (by k_is)
    · exact M.free_of KX G (by k_is)
    · exact M.free_of KX G (by k_is)
    · exact M.free_of KX G (by k_is)
    · exact M.free_of KX G (by k_is)
    · exact M.free_of KX G (by k_is)
    · exact M.free_of KX G (by k_is)
    · exact M.free_of KX G (by k_is)
    · exact M.free_of KX G (by k_is)
    · exact M.free_of KX G (by k_is)
    · refine' M.gstr_of KX G ?a_14 ?e_14; (case a_14 => k_is); (case e_14 => first | rfl | decide +kernel)
    · refine' M.gint_of KX G ?a_15 ?e_15; (case a_15 => k_is); (case e_15 => rfl)
    · refine' M.gint_of KX G ?a_16 ?e_16; (case a_16 => k_is); (case e_16 => rfl)
    · refine' M.gint_of KX G ?a_17 ?e_17; (case a_17 => k_is); (case e_17 => rfl)
    · refine' M.gint_of KX G ?a_18 ?e_18; (case a_18 => k_is); (case e_18 => rfl)
    · refine' M.dfd_of KX G ?a_19 ?l_19 ?c_19 ?k_19 ?l2_19 ?e_19 ?hd_19 ?hv_19; (case a_19 => k_is); (case l_19 => k_is); (case c_19 => k_is); (case k_19 => k_is); (case l2_19 => k_is); (case e_19 => rfl); (case hd_19 => simp); (case hv_19 => exact .cons ⟨_, rfl⟩ (.cons ⟨_, rfl⟩ (.nil)))
    · refine' M.df_of KX G ?a_20 ?l_20 ?c_20 ?k_20; (case a_20 => k_is); (case l_20 => k_is); (case c_20 => k_is); (case k_20 => k_is)
    · refine' M.df_of KX G ?a_21 ?l_21 ?c_21 ?k_21; (case a_21 => k_is); (case l_21 => k_is); (case c_21 => k_is); (case k_21 => k_is)
    · refine' M.df_of KX G ?a_22 ?l_22 ?c_22 ?k_22; (case a_22 => k_is); (case l_22 => k_is); (case c_22 => k_is); (case k_22 => k_is)
    · refine' M.df_of KX G ?a_23 ?l_23 ?c_23 ?k_23; (case a_23 => k_is); (case l_23 => k_is); (case c_23 => k_is); (case k_23 => k_is)
    · refine' M.df_of KX G ?a_24 ?l_24 ?c_24 ?k_24; (case a_24 => k_is); (case l_24 => k_is); (case c_24 => k_is); (case k_24 => k_is)
    · refine' M.df_of KX G ?a_25 ?l_25 ?c_25 ?k_25; (case a_25 => k_is); (case l_25 => k_is); (case c_25 => k_is); (case k_25 => k_is)
    · refine' M.df_of KX G ?a_26 ?l_26 ?c_26 ?k_26; (case a_26 => k_is); (case l_26 => k_is); (case c_26 => k_is); (case k_26 => k_is)
    · refine' M.df_of KX G ?a_27 ?l_27 ?c_27 ?k_27; (case a_27 => k_is); (case l_27 => k_is); (case c_27 => k_is); (case k_27 => k_is)
    · refine' M.df_of KX G ?a_28 ?l_28 ?c_28 ?k_28; (case a_28 => k_is); (case l_28 => k_is); (case c_28 => k_is); (case k_28 => k_is)
    · refine' M.df_of KX G ?a_29 ?l_29 ?c_29 ?k_29; (case a_29 => k_is); (case l_29 => k_is); (case c_29 => k_is); (case k_29 => k_is)
    · refine' M.df_of KX G ?a_30 ?l_30 ?c_30 ?k_30; (case a_30 => k_is); (case l_30 => k_is); (case c_30 => k_is); (case k_30 => k_is)
    · refine' M.df_of KX G ?a_31 ?l_31 ?c_31 ?k_31; (case a_31 => k_is); (case l_31 => k_is); (case c_31 => k_is); (case k_31 => k_is)
    · refine' M.df_of KX G ?a_32 ?l_32 ?c_32 ?k_32; (case a_32 => k_is); (case l_32 => k_is); (case c_32 => k_is); (case k_32 => k_is)
    · refine' M.df_of KX G ?a_33 ?l_33 ?c_33 ?k_33; (case a_33 => k_is); (case l_33 => k_is); (case c_33 => k_is); (case k_33 => k_is)
    · refine' M.df_of KX G ?a_34 ?l_34 ?c_34 ?k_34; (case a_34 => k_is); (case l_34 => k_is); (case c_34 => k_is); (case k_34 => k_is)
    · refine' M.df_of KX G ?a_35 ?l_35 ?c_35 ?k_35; (case a_35 => k_is); (case l_35 => k_is); (case c_35 => k_is); (case k_35 => k_is)
    · refine' M.df_of KX G ?a_36 ?l_36 ?c_36 ?k_36; (case a_36 => k_is); (case l_36 => k_is); (case c_36 => k_is); (case k_36 => k_is)
    · refine' M.df_of KX G ?a_37 ?l_37 ?c_37 ?k_37; (case a_37 => k_is); (case l_37 => k_is); (case c_37 => k_is); (case k_37 => k_is)
    · refine' M.df_of KX G ?a_38 ?l_38 ?c_38 ?k_38; (case a_38 => k_is); (case l_38 => k_is); (case c_38 => k_is); (case k_38 => k_is)
    · refine' M.df_of KX G ?a_39 ?l_39 ?c_39 ?k_39; (case a_39 => k_is); (case l_39 => k_is); (case c_39 => k_is); (case k_39 => k_is)
    · refine' M.df_of KX G ?a_40 ?l_40 ?c_40 ?k_40; (case a_40 => k_is); (case l_40 => k_is); (case c_40 => k_is); (case k_40 => k_is)
    · refine' M.df_of KX G ?a_41 ?l_41 ?c_41 ?k_41; (case a_41 => k_is); (case l_41 => k_is); (case c_41 => k_is); (case k_41 => k_is)
    · refine' M.df_of KX G ?a_42 ?l_42 ?c_42 ?k_42; (case a_42 => k_is); (case l_42 => k_is); (case c_42 => k_is); (case k_42 => k_is)
    · refine' M.mkf_of KX G ?a_43 ?a1_43 ?i1_43 ?l_43 ?c_43 ?k_43 ?pg_43 ?hd_43 ?po_43 ?sa_43 ?mk_43 ?kc_43 (List.forall_mem_cons.mpr ⟨?n0_43, List.forall_mem_cons.mpr ⟨?n1_43, fun _ h => nomatch h⟩⟩); (case a_43 => k_is); (case a1_43 => k_is); (case i1_43 => k_is); (case l_43 => k_is); (case c_43 => k_is); (case k_43 => k_is); (case pg_43 => k_is); (case hd_43 => k_is); (case po_43 => k_is); (case sa_43 => k_is); (case mk_43 => k_is); (case kc_43 => k_is); (case n0_43 => k_is); (case n1_43 => k_is)
  (case a => k_is); (case l1 => k_is); (case c => k_is); (case kp => k_is)
#print axioms PySem.Challenge.cw_stringbench_k52_whole_squares_kept_holds
