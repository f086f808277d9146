import PyProof.Rows.All
import Wide.All
import OpenK.AllK
import Wide.FinOn
import HandS.ForMost
import HandS.IsInst
import HandS.Defaults
import HandS.Wide
import HandS.TupAny
import HandS.TupMul
import HandS.Style
import HandS.StrMore
import HandS.Replace
import HandS.Conv
import HandS.TryMany
import HandS.ExcField
import HandS.ExcInit
import HandS.WordsExc
import HandS.ListItems
import PyProof.LongRange
import PySem.Challenge.RW_stringbench_k54_the_thue_word_and_peelin
set_option Elab.async false
set_option linter.all false
set_option maxRecDepth 100000
set_option maxHeartbeats 4000000
namespace M
open PySem L2
inductive D where
  | non | bl (b : Bool) | int (i : Int) | str (s : List Nat) | lst (xs : List D) | tup (xs : List D) | scr (xs : List D)
  | ins (nm : Str) (ns : List Str) (xs : List D) | ptr (v : V) | exn (a dd : Addr) (ns : List Str) (xs : List D) | dct (ks : List L2.Key) (xs : List D)
inductive SV where
  | d (x : D) | own (b : Bool) (xs : List D)
structure Fm where
  hp : Hp
  par : Nat → Option Addr
inductive RV where
  | d (x : D) | own (xs : List D) | bor (i : Nat)
abbrev Sl := List (Option SV)
abbrev Sg := List (Option V)
def At {α : Type} (l : List (Option α)) (i : Nat) (x : α) : Prop := l[i]? = (some (some x) : Option (Option α))
abbrev dAt (ρ : Sl) (i : Nat) (x : D) : Prop := At ρ i (SV.d x)
abbrev oAt (ρ : Sl) (i : Nat) (b : Bool) (x : List D) : Prop := At ρ i (SV.own b x)
abbrev vAt (σ : Sg) (i : Nat) (v : V) : Prop := At σ i v
theorem At.inj {α : Type} {l : List (Option α)} {i : Nat} {x y : α} (h : At l i x) (k : At l i y) : x = y := by
  unfold At at *; rw [h] at k; cases k; rfl
theorem At.lt {α : Type} {l : List (Option α)} {i : Nat} {x : α} (h : At l i x) : i < l.length := (List.getElem?_eq_some_iff.mp h).1
theorem At.of_set {α : Type} {l : List (Option α)} {i j : Nat} {x : Option α} {y : α} (h : At (l.set i x) j y) : (i = j ∧ x = some y ∧ i < l.length) ∨ (i ≠ j ∧ At l j y) := by
  unfold At at *
  by_cases hj : i = j
  · subst hj
    by_cases hl : i < l.length
    · rw [List.getElem?_set_self hl] at h
      exact .inl ⟨rfl, by cases h; rfl, hl⟩
    · rw [List.getElem?_eq_none (by simpa using hl)] at h; cases h
  · rw [List.getElem?_set_ne hj] at h
    exact .inr ⟨hj, h⟩
theorem At.set_self {α : Type} {l : List (Option α)} {i : Nat} {x : α} (h : i < l.length) : At (l.set i (some x)) i x := List.getElem?_set_self h
theorem At.set_ne {α : Type} {l : List (Option α)} {i j : Nat} {x : Option α} {y : α} (hj : i ≠ j) (h : At l j y) : At (l.set i x) j y := by
  unfold At at *; rw [List.getElem?_set_ne hj]; exact h
theorem At.set_same {α : Type} {l : List (Option α)} {i : Nat} {x : α} (h : At l i x) : l.set i (some x) = l := by
  refine List.ext_getElem? fun j => ?_
  by_cases hj : i = j
  · subst hj
    rw [List.getElem?_set_self h.lt]; exact h.symm
  · rw [List.getElem?_set_ne hj]
mutual
def RD (K : PySem.W.Frag) (H : Hp) : D → V → Prop
  | .non, v => v = .non
  | .bl b, v => v = .bl b
  | .int i, v => v = .int i
  | .str s, v => v = .str ⟨s.toArray⟩
  | .lst ds, v => ∃ a xs, v = .ref a ∧ H a = some (.lst xs) ∧ RDs K H ds xs
  | .scr ds, v => ∃ a xs, v = .ref a ∧ SqL K H a xs ∧ RDs K H ds xs
  | .tup ds, v => ∃ a xs, v = .ref a ∧ SqT K H a xs ∧ RDs K H ds xs
  | .ins _ ns ds, v => ∃ a C dx fs, v = .ref a ∧ H a = some (.ins C dx fs) ∧ Cls K C ∧ (∀ f ∈ ns, NoAttr K C f) ∧ fs.map (·.1) = ns ∧ RDs K H ds (fs.map (·.2))
  | .ptr u, v => v = u
  | .exn a dd ns ds, v => v = .ref a ∧ ∃ us, H dd = some (.xd (ns.zip us)) ∧ us.length = ns.length ∧ RDs K H ds us
  | .dct ks ds, v => ∃ a kvs, v = .ref a ∧ H a = some (.dK kvs) ∧ kvs.map (·.1) = ks ∧ RDs K H ds (kvs.map (·.2))
def RDs (K : PySem.W.Frag) (H : Hp) : List D → List V → Prop
  | [], vs => vs = []
  | d :: ds, vs => ∃ x xs, vs = x :: xs ∧ RD K H d x ∧ RDs K H ds xs
end
theorem sameT {K : PySem.W.Frag} {H H' : Hp} {a : Addr} {xs : List V} (e : Same H H') (h : SqT K H a xs) : SqT K H' a xs := by
  rcases h with (h | ⟨o, h⟩) | h
  · exact .inl (.inl (e _ _ h))
  · exact .inl (.inr ⟨o, e _ _ h⟩)
  · exact .inr h
mutual
theorem RD.mono {K : PySem.W.Frag} {H H' : Hp} (e : Same H H') : ∀ (d : D) (v : V), RD K H d v → RD K H' d v
  | .non, v, h => h
  | .bl b, v, h => h
  | .int i, v, h => h
  | .str s, v, h => h
  | .lst ds, v, ⟨a, xs, e1, e2, e3⟩ => ⟨a, xs, e1, e _ _ e2, RDs.mono e ds xs e3⟩
  | .scr ds, v, ⟨a, xs, e1, e2, e3⟩ => ⟨a, xs, e1, e.seq e2, RDs.mono e ds xs e3⟩
  | .tup ds, v, ⟨a, xs, e1, e2, e3⟩ => ⟨a, xs, e1, sameT e e2, RDs.mono e ds xs e3⟩
  | .ins nm ns ds, v, ⟨a, C, dx, fs, e1, e2, c1, c2, e3, e4⟩ => ⟨a, C, dx, fs, e1, e _ _ e2, c1, c2, e3, RDs.mono e ds _ e4⟩
  | .ptr u, v, h => h
  | .exn a dd ns ds, v, ⟨h, us, h1, h2, h3⟩ => ⟨h, us, e _ _ h1, h2, RDs.mono e ds us h3⟩
  | .dct ks ds, v, ⟨a, kvs, e1, e2, e3, e4⟩ => ⟨a, kvs, e1, e _ _ e2, e3, RDs.mono e ds _ e4⟩
theorem RDs.mono {K : PySem.W.Frag} {H H' : Hp} (e : Same H H') : ∀ (ds : List D) (vs : List V), RDs K H ds vs → RDs K H' ds vs
  | [], vs, h => h
  | d :: ds, vs, ⟨x, xs, e1, e2, e3⟩ => ⟨x, xs, e1, RD.mono e d x e2, RDs.mono e ds xs e3⟩
end
theorem RDs.length {K : PySem.W.Frag} {H : Hp} : ∀ {ds : List D} {vs : List V}, RDs K H ds vs → vs.length = ds.length
  | [], vs, h => by cases h; rfl
  | d :: ds, vs, ⟨x, xs, e1, e2, e3⟩ => by subst e1; simp [RDs.length e3]
theorem RDs.append {K : PySem.W.Frag} {H : Hp} : ∀ {ds es : List D} {vs us : List V}, RDs K H ds vs → RDs K H es us → RDs K H (ds ++ es) (vs ++ us)
  | [], es, vs, us, h, k => by cases h; exact k
  | d :: ds, es, vs, us, ⟨x, xs, e1, e2, e3⟩, k => by subst e1; exact ⟨x, xs ++ us, rfl, e2, RDs.append e3 k⟩
theorem RDs.get {K : PySem.W.Frag} {H : Hp} : ∀ {ds : List D} {vs : List V} {i : Nat} {d : D}, RDs K H ds vs → ds[i]? = some d → ∃ v, vs[i]? = some v ∧ RD K H d v
  | [], vs, i, d, h, e => by simp at e
  | d0 :: ds, vs, 0, d, ⟨x, xs, e1, e2, e3⟩, e => by
    subst e1; simp at e; subst e; exact ⟨x, rfl, e2⟩
  | d0 :: ds, vs, i + 1, d, ⟨x, xs, e1, e2, e3⟩, e => by
    subst e1; simp at e
    obtain ⟨v, h1, h2⟩ := RDs.get e3 e
    exact ⟨v, by simpa using h1, h2⟩
theorem RDs.getV {K : PySem.W.Frag} {H : Hp} : ∀ {ds : List D} {vs : List V} {i : Nat} {v : V}, RDs K H ds vs → vs[i]? = some v → ∃ d, ds[i]? = some d ∧ RD K H d v
  | [], vs, i, d, h, e => by cases h; simp at e
  | d0 :: ds, vs, 0, v, ⟨x, xs, e1, e2, e3⟩, e => by
    subst e1; simp at e; subst e; exact ⟨d0, rfl, e2⟩
  | d0 :: ds, vs, i + 1, v, ⟨x, xs, e1, e2, e3⟩, e => by
    subst e1; simp at e
    obtain ⟨d, h1, h2⟩ := RDs.getV e3 e
    exact ⟨d, by simpa using h1, h2⟩
theorem RDs.take {K : PySem.W.Frag} {H : Hp} : ∀ {ds : List D} {vs : List V} (n : Nat), RDs K H ds vs → RDs K H (ds.take n) (vs.take n)
  | _, _, 0, _ => by simp [RDs]
  | [], vs, n + 1, h => by cases h; simp [RDs]
  | d :: ds, vs, n + 1, ⟨x, xs, e1, e2, e3⟩ => by subst e1; exact ⟨x, xs.take n, rfl, e2, RDs.take n e3⟩
theorem RDs.drop {K : PySem.W.Frag} {H : Hp} : ∀ {ds : List D} {vs : List V} (n : Nat), RDs K H ds vs → RDs K H (ds.drop n) (vs.drop n)
  | _, _, 0, h => by simpa using h
  | [], vs, n + 1, h => by cases h; simp [RDs]
  | d :: ds, vs, n + 1, ⟨x, xs, e1, e2, e3⟩ => by subst e1; simpa using RDs.drop n e3
theorem RDs.set {K : PySem.W.Frag} {H : Hp} {d : D} {x : V} (hx : RD K H d x) : ∀ {ds : List D} {vs : List V} (n : Nat), RDs K H ds vs → RDs K H (ds.set n d) (vs.set n x)
  | [], vs, n, h => by cases h; simp [RDs]
  | d0 :: ds, vs, 0, ⟨y, xs, e1, e2, e3⟩ => by subst e1; exact ⟨x, xs, rfl, hx, e3⟩
  | d0 :: ds, vs, n + 1, ⟨y, xs, e1, e2, e3⟩ => by subst e1; exact ⟨y, xs.set n x, rfl, e2, RDs.set hx n e3⟩
theorem RDs.one {K : PySem.W.Frag} {H : Hp} {d : D} {x : V} (h : RD K H d x) : RDs K H [d] [x] := ⟨x, [], rfl, h, rfl⟩
theorem RDs.eraseIdx {K : PySem.W.Frag} {H : Hp} : ∀ {ds : List D} {vs : List V} (n : Nat), RDs K H ds vs → RDs K H (ds.eraseIdx n) (vs.eraseIdx n)
  | [], vs, n, h => by cases h; simp [RDs]
  | d :: ds, vs, 0, ⟨x, xs, e1, e2, e3⟩ => by subst e1; simpa using e3
  | d :: ds, vs, n + 1, ⟨x, xs, e1, e2, e3⟩ => by subst e1; exact ⟨x, xs.eraseIdx n, rfl, e2, RDs.eraseIdx n e3⟩
structure Rep (K : PySem.W.Frag) (F : Fm) (G H : Hp) (σ : Sg) (ρ : Sl) : Prop where
  gh : Same G H
  fh : Same F.hp H
  fg : ∀ b o, F.hp b = some o → G b = none
  len : ρ.length = σ.length
  dat : ∀ i x, dAt ρ i x → ∃ v, vAt σ i v ∧ RD K G x v
  own : ∀ i b xs, oAt ρ i b xs → ∃ p vs, vAt σ i (.ref p) ∧ H p = some (.lst vs) ∧ G p = none ∧ F.hp p = none ∧ RDs K G xs vs ∧ (b = true → F.par i = some p)
  sep : ∀ i j p b c xs ys, i ≠ j → oAt ρ i b xs → oAt ρ j c ys → vAt σ i (.ref p) → ¬ vAt σ j (.ref p)
def RR (K : PySem.W.Frag) (F : Fm) (G H : Hp) (σ : Sg) (ρ : Sl) : RV → V → Prop
  | .d x, v => RD K G x v
  | .own xs, v => ∃ p vs, v = .ref p ∧ H p = some (.lst vs) ∧ G p = none ∧ F.hp p = none ∧ RDs K G xs vs ∧ ∀ i b ys, oAt ρ i b ys → ¬ vAt σ i (.ref p)
  | .bor i, v => vAt σ i v
theorem Same.updN {G : Hp} {p : Addr} {o : HO} (h : G p = none) : Same G (upd G p o) := fun b u e => by rw [upd_ne (ne_of_none e h)]; exact e
theorem Same.updB {G H : Hp} {p : Addr} {o : HO} (h : Same G H) : Same (upd G p o) (upd H p o) := fun b u e => by
  unfold upd at *
  split at e <;> rename_i hb
  · rw [if_pos hb]; exact e
  · rw [if_neg hb]; exact h _ _ e
section
variable {K : PySem.W.Frag} {F : Fm} {G H : Hp} {σ : Sg} {ρ : Sl}
theorem Rep.frzP (R : Rep K F G H σ ρ) {p : Addr} {vs : List V} (hp : H p = some (.lst vs)) (gp : G p = none) (fp : F.hp p = none) (ns : ∀ i b ys, oAt ρ i b ys → ¬ vAt σ i (.ref p)) :
    Rep K F (upd G p (.lst vs)) H σ ρ where
  gh := fun b o e => by
    unfold upd at e
    split at e <;> rename_i hb
    · cases e; rw [hb]; exact hp
    · exact R.gh b o e
  fh := R.fh
  fg := fun b o e => by
    have hb : b ≠ p := ne_of_none e fp
    rw [upd_ne hb]; exact R.fg b o e
  len := R.len
  dat := fun i x e => by
    obtain ⟨v, h1, h2⟩ := R.dat i x e
    exact ⟨v, h1, RD.mono (Same.updN gp) _ _ h2⟩
  own := fun i b xs e => by
    obtain ⟨q, us, h1, h2, h3, h4, h5, h6⟩ := R.own i b xs e
    have hq : q ≠ p := fun z => ns i b xs e (z ▸ h1)
    exact ⟨q, us, h1, h2, by rw [upd_ne hq]; exact h3, h4, RDs.mono (Same.updN gp) _ _ h5, h6⟩
  sep := R.sep
theorem RDs.frzP {xs : List D} {p : Addr} {vs : List V} (gp : G p = none) (h : RDs K G xs vs) : RD K (upd G p (.lst vs)) (.lst xs) (.ref p) :=
  ⟨p, vs, rfl, upd_same, RDs.mono (Same.updN gp) _ _ h⟩
theorem Rep.setD (R : Rep K F G H σ ρ) {i : Nat} {x : D} {v : V} (hv : RD K G x v) : Rep K F G H (σ.set i (some v)) (ρ.set i (some (.d x))) where
  gh := R.gh
  fh := R.fh
  fg := R.fg
  len := by simpa using R.len
  dat := fun j y e => by
    rcases e.of_set with ⟨rfl, e, hl⟩ | ⟨hj, e⟩
    · cases e
      exact ⟨v, At.set_self (by rw [← R.len]; exact hl), hv⟩
    · obtain ⟨u, h1, h2⟩ := R.dat j y e
      exact ⟨u, h1.set_ne hj, h2⟩
  own := fun j b y e => by
    rcases e.of_set with ⟨rfl, e, hl⟩ | ⟨hj, e⟩
    · cases e
    · obtain ⟨p, vs, h1, h2⟩ := R.own j b y e
      exact ⟨p, vs, h1.set_ne hj, h2⟩
  sep := fun j k p b c xs ys hjk e1 e2 e3 e4 => by
    rcases e1.of_set with ⟨rfl, e, hl⟩ | ⟨hj, e1⟩
    · cases e
    rcases e2.of_set with ⟨rfl, e, hl⟩ | ⟨hk, e2⟩
    · cases e
    rcases e3.of_set with ⟨z, e, hl⟩ | ⟨_, e3⟩
    · exact hj z
    rcases e4.of_set with ⟨z, e, hl⟩ | ⟨_, e4⟩
    · exact hk z
    exact R.sep j k p b c xs ys hjk e1 e2 e3 e4
theorem Rep.clear (R : Rep K F G H σ ρ) {i : Nat} {o : Option V} : Rep K F G H (σ.set i o) (ρ.set i none) where
  gh := R.gh
  fh := R.fh
  fg := R.fg
  len := by simpa using R.len
  dat := fun j y e => by
    rcases e.of_set with ⟨rfl, e, hl⟩ | ⟨hj, e⟩
    · cases e
    · obtain ⟨u, h1, h2⟩ := R.dat j y e
      exact ⟨u, h1.set_ne hj, h2⟩
  own := fun j b y e => by
    rcases e.of_set with ⟨rfl, e, hl⟩ | ⟨hj, e⟩
    · cases e
    · obtain ⟨p, vs, h1, h2⟩ := R.own j b y e
      exact ⟨p, vs, h1.set_ne hj, h2⟩
  sep := fun j k p b c xs ys hjk e1 e2 e3 e4 => by
    rcases e1.of_set with ⟨rfl, e, hl⟩ | ⟨hj, e1⟩
    · cases e
    rcases e2.of_set with ⟨rfl, e, hl⟩ | ⟨hk, e2⟩
    · cases e
    rcases e3.of_set with ⟨z, e, hl⟩ | ⟨_, e3⟩
    · exact hj z
    rcases e4.of_set with ⟨z, e, hl⟩ | ⟨_, e4⟩
    · exact hk z
    exact R.sep j k p b c xs ys hjk e1 e2 e3 e4
theorem Rep.setO (R : Rep K F G H σ ρ) {i : Nat} {xs : List D} {v : V} (hv : RR K F G H σ ρ (.own xs) v) : Rep K F G H (σ.set i (some v)) (ρ.set i (some (.own false xs))) := by
  obtain ⟨p, vs, rfl, hp, gp, fp, hr, hs⟩ := hv
  refine ⟨R.gh, R.fh, R.fg, by simpa using R.len, fun j y e => ?_, fun j b y e => ?_, fun j k q b c as bs hjk e1 e2 e3 e4 => ?_⟩
  · rcases e.of_set with ⟨rfl, e, hl⟩ | ⟨hj, e⟩
    · cases e
    · obtain ⟨u, h1, h2⟩ := R.dat j y e
      exact ⟨u, h1.set_ne hj, h2⟩
  · rcases e.of_set with ⟨rfl, e, hl⟩ | ⟨hj, e⟩
    · cases e
      exact ⟨p, vs, At.set_self (by rw [← R.len]; exact hl), hp, gp, fp, hr, fun z => nomatch z⟩
    · obtain ⟨p, vs, h1, h2⟩ := R.own j b y e
      exact ⟨p, vs, h1.set_ne hj, h2⟩
  · rcases e1.of_set with ⟨rfl, e, hl⟩ | ⟨hj, e1⟩
    · rcases e2.of_set with ⟨z, e', hl'⟩ | ⟨hk, e2⟩
      · exact hjk z
      rcases e3.of_set with ⟨_, e, hl⟩ | ⟨z, e3⟩
      · cases e
        rcases e4.of_set with ⟨z, _, _⟩ | ⟨_, e4⟩
        · exact hk z
        · exact hs k c bs e2 e4
      · exact z rfl
    · rcases e3.of_set with ⟨z, _, _⟩ | ⟨_, e3⟩
      · exact hj z
      rcases e2.of_set with ⟨rfl, e', hl'⟩ | ⟨hk, e2⟩
      · rcases e4.of_set with ⟨_, e, _⟩ | ⟨z, _⟩
        · cases e
          exact hs j b as e1 e3
        · exact z rfl
      · rcases e4.of_set with ⟨z, _, _⟩ | ⟨_, e4⟩
        · exact hk z
        · exact R.sep j k q b c as bs hjk e1 e2 e3 e4
theorem Rep.frzS (R : Rep K F G H σ ρ) {i : Nat} {b : Bool} {xs : List D} (e : oAt ρ i b xs) :
    ∃ p vs, vAt σ i (.ref p) ∧ Same G (upd G p (.lst vs)) ∧ Rep K F (upd G p (.lst vs)) H σ (ρ.set i (some (.d (.lst xs)))) ∧ RD K (upd G p (.lst vs)) (.lst xs) (.ref p) := by
  obtain ⟨p, vs, h1, h2, h3, h4, h5, h6⟩ := R.own i b xs e
  have R1 : Rep K F G H (σ.set i (some (.ref p))) (ρ.set i none) := R.clear
  rw [h1.set_same] at R1
  have R2 := R1.frzP h2 h3 h4 (fun j c ys q z => by
    rcases At.of_set q with ⟨rfl, e, _⟩ | ⟨hj, q⟩
    · cases e
    · exact R.sep i j p b c xs ys hj e q h1 z)
  have rd := RDs.frzP (p := p) h3 h5
  have R3 := R2.setD (i := i) rd
  rw [List.set_set, h1.set_same] at R3
  exact ⟨p, vs, h1, Same.updN h3, R3, rd⟩
theorem Rep.wr (R : Rep K F G H σ ρ) {i : Nat} {b : Bool} {xs ys : List D} {p : Addr} {us : List V} (e : oAt ρ i b xs) (hp : vAt σ i (.ref p)) (hy : RDs K G ys us) : Rep K F G (upd H p (.lst us)) σ (ρ.set i (some (.own b ys))) := by
  obtain ⟨q, vs, h1, h2, h3, h4, h5, h6⟩ := R.own i b xs e
  obtain rfl : q = p := by have := h1.inj hp; cases this; rfl
  refine ⟨fun b o z => ?_, fun b o z => ?_, R.fg, by simpa using R.len, fun j y z => ?_, fun j c y z => ?_, fun j k r c1 c2 as bs hjk e1 e2 e3 e4 => ?_⟩
  · rw [upd_ne (ne_of_none z h3)]; exact R.gh b o z
  · rw [upd_ne (ne_of_none z h4)]; exact R.fh b o z
  · rcases z.of_set with ⟨rfl, z, hl⟩ | ⟨hj, z⟩
    · cases z
    · exact R.dat j y z
  · rcases z.of_set with ⟨rfl, z, hl⟩ | ⟨hj, z⟩
    · cases z
      exact ⟨q, us, hp, upd_same, h3, h4, hy, h6⟩
    · obtain ⟨r, ws, g1, g2, g3⟩ := R.own j c y z
      have hr : r ≠ q := fun w => R.sep i j q b c xs y hj e z h1 (w ▸ g1)
      exact ⟨r, ws, g1, by rw [upd_ne hr]; exact g2, g3⟩
  · have f1 : ∃ c as', oAt ρ j c as' := by
      rcases e1.of_set with ⟨rfl, _, _⟩ | ⟨_, e1⟩
      · exact ⟨b, xs, e⟩
      · exact ⟨_, as, e1⟩
    have f2 : ∃ c as', oAt ρ k c as' := by
      rcases e2.of_set with ⟨rfl, _, _⟩ | ⟨_, e2⟩
      · exact ⟨b, xs, e⟩
      · exact ⟨_, bs, e2⟩
    obtain ⟨_, _, f1⟩ := f1
    obtain ⟨_, _, f2⟩ := f2
    exact R.sep j k r _ _ _ _ hjk f1 f2 e3 e4
theorem Rep.new (R : Rep K F G H σ ρ) {p : Addr} {o : HO} (hn : H p = none) : Rep K F G (upd H p o) σ ρ where
  gh := fun b u e => by rw [upd_ne (ne_of_none (R.gh b u e) hn)]; exact R.gh b u e
  fh := fun b u e => by rw [upd_ne (ne_of_none (R.fh b u e) hn)]; exact R.fh b u e
  fg := R.fg
  len := R.len
  dat := R.dat
  own := fun i b xs e => by
    obtain ⟨q, vs, h1, h2, h3⟩ := R.own i b xs e
    exact ⟨q, vs, h1, by rw [upd_ne (ne_of_none h2 hn)]; exact h2, h3⟩
  sep := R.sep
theorem Rep.gNone (R : Rep K F G H σ ρ) {p : Addr} (hn : H p = none) : G p = none := Same.free R.gh hn
theorem Rep.fNone (R : Rep K F G H σ ρ) {p : Addr} (hn : H p = none) : F.hp p = none := Same.free R.fh hn
theorem Rep.oNe (R : Rep K F G H σ ρ) {p : Addr} (hn : H p = none) : ∀ i b ys, oAt ρ i b ys → ¬ vAt σ i (.ref p) := fun i b ys e z => by
  obtain ⟨q, vs, h1, h2, _⟩ := R.own i b ys e
  have := h1.inj z
  cases this
  rw [hn] at h2; cases h2
theorem Rep.newG (R : Rep K F G H σ ρ) {p : Addr} {o : HO} (hn : H p = none) : Rep K F (upd G p o) (upd H p o) σ ρ where
  gh := Same.updB R.gh
  fh := (R.new hn).fh
  fg := fun b u e => by rw [upd_ne (ne_of_none (R.fh b u e) hn)]; exact R.fg b u e
  len := R.len
  dat := fun i x e => by
    obtain ⟨v, h1, h2⟩ := R.dat i x e
    exact ⟨v, h1, RD.mono (Same.updN (R.gNone hn)) _ _ h2⟩
  own := fun i b xs e => by
    obtain ⟨q, vs, h1, h2, h3, h4, h5, h6⟩ := R.own i b xs e
    have hq : q ≠ p := ne_of_none h2 hn
    exact ⟨q, vs, h1, by rw [upd_ne hq]; exact h2, by rw [upd_ne hq]; exact h3, h4, RDs.mono (Same.updN (R.gNone hn)) _ _ h5, h6⟩
  sep := R.sep
theorem Rep.lend (R : Rep K F G H σ ρ) {p : Addr} {o : HO} (hp : H p = some o) (gp : G p = none) (ns : ∀ i b ys, oAt ρ i b ys → ¬ vAt σ i (.ref p)) : Rep K ⟨upd F.hp p o, F.par⟩ G H σ ρ where
  gh := R.gh
  fh := fun b u e => by
    have e : upd F.hp p o b = some u := e
    unfold upd at e
    split at e <;> rename_i hb
    · cases e; rw [hb]; exact hp
    · exact R.fh b u e
  fg := fun b u e => by
    have e : upd F.hp p o b = some u := e
    unfold upd at e
    split at e <;> rename_i hb
    · rw [hb]; exact gp
    · exact R.fg b u e
  len := R.len
  dat := R.dat
  own := fun i b xs e => by
    obtain ⟨q, vs, h1, h2, h3, h4, h5⟩ := R.own i b xs e
    have hq : q ≠ p := fun z => ns i b xs e (z ▸ h1)
    exact ⟨q, vs, h1, h2, h3, by show upd F.hp p o q = none; rw [upd_ne hq]; exact h4, h5⟩
  sep := R.sep
theorem Rep.back {p : Addr} {o : HO} (R : Rep K ⟨upd F.hp p o, F.par⟩ G H σ ρ) (fp : F.hp p = none) : Rep K F G H σ ρ ∧ H p = some o ∧ G p = none ∧ ∀ i b ys, oAt ρ i b ys → ¬ vAt σ i (.ref p) := by
  refine ⟨⟨R.gh, fun b u e => R.fh b u (by show upd F.hp p o b = _; rw [upd_ne (ne_of_none e fp)]; exact e), fun b u e => R.fg b u (by show upd F.hp p o b = _; rw [upd_ne (ne_of_none e fp)]; exact e), R.len, R.dat, fun i b xs e => ?_, R.sep⟩, R.fh p o upd_same, R.fg p o upd_same, fun i b ys e z => ?_⟩
  · obtain ⟨q, vs, h1, h2, h3, h4, h5⟩ := R.own i b xs e
    refine ⟨q, vs, h1, h2, h3, ?_, h5⟩
    have h4 : upd F.hp p o q = none := h4
    by_cases hq : q = p
    · rw [hq]; exact fp
    · rw [upd_ne hq] at h4; exact h4
  · obtain ⟨q, vs, h1, h2, h3, h4, h5⟩ := R.own i b ys e
    have e : q = p := by cases h1.inj z; rfl
    have h4 : upd F.hp p o q = none := h4
    rw [e, upd_same] at h4; cases h4
end
end M
namespace M
open PySem L2
abbrev Ex := Sl → Option (RV × Sl)
abbrev Tx := Sl → Option (Bool × Sl)
abbrev Ax := Sl → Option (List RV × Sl)
inductive Fl where
  | nx | bk | ct | rt (r : RV)
abbrev Sx := Sl → Option (Fl × Sl)
def tE (K : PySem.W.Frag) (f : Ex) : TE := fun σ H Q => ∃ F G ρ r ρ', Rep K F G H σ ρ ∧ f ρ = some (r, ρ') ∧ ∀ v G' H', Same G G' → Rep K F G' H' σ ρ' → RR K F G' H' σ ρ' r v → Q v H'
def tT (K : PySem.W.Frag) (f : Tx) : TT := fun σ H Q => ∃ F G ρ b ρ', Rep K F G H σ ρ ∧ f ρ = some (b, ρ') ∧ ∀ G' H', Same G G' → Rep K F G' H' σ ρ' → Q b H'
def PEv (X : Cx) (e : Expr) (f : Ex) : Prop := PE X e (tE X.K f)
def PTv (X : Cx) (e : Expr) (f : Tx) : Prop := PT X e (tT X.K f)
def PWv (X : Cx) (e : Expr) (f : Tx) : Prop := PW X e (tT X.K f)
theorem PE.imp {X : Cx} {e : Expr} {t t' : TE} (h : PE X e t) (i : ∀ σ H Q, t' σ H Q → t σ H Q) : PE X e t' := ⟨fun pins s σ H Q I q => h.run pins s σ H Q I (i σ H Q q)⟩
theorem PT.imp {X : Cx} {e : Expr} {t t' : TT} (h : PT X e t) (i : ∀ σ H Q, t' σ H Q → t σ H Q) : PT X e t' := ⟨fun pins s σ H Q I q => h.run pins s σ H Q I (i σ H Q q)⟩
theorem PW.imp {X : Cx} {e : Expr} {t t' : TT} (h : PW X e t) (i : ∀ σ H Q, t' σ H Q → t σ H Q) : PW X e t' := ⟨fun w pins s σ H Q I q => h.run w pins s σ H Q I (i σ H Q q)⟩
theorem PS.imp {X : Cx} {e : Stmt} {t t' : TS} (h : PS X e t) (i : ∀ D σ H, t' D σ H → t D σ H) : PS X e t' := ⟨fun pins s σ H D I q => h.run pins s σ H D I (i D σ H q)⟩
theorem PSs.imp {X : Cx} {e : List Stmt} {t t' : TS} (h : PSs X e t) (i : ∀ D σ H, t' D σ H → t D σ H) : PSs X e t' := ⟨fun pins s σ H D I q => h.run pins s σ H D I (i D σ H q)⟩
theorem PA.imp {X : Cx} {e : List Expr} {t t' : TA} (h : PA X e t) (i : ∀ σ H Q, t' σ H Q → t σ H Q) : PA X e t' := ⟨fun pos pins s σ H Q I q => h.run pos pins s σ H Q I (i σ H Q q)⟩
def RV.nrm : RV → RV
  | .own xs => .d (.lst xs)
  | r => r
def RN (K : PySem.W.Frag) (G : Hp) (σ : Sg) : RV → V → Prop
  | .d x, v => RD K G x v
  | .own _, _ => False
  | .bor i, v => vAt σ i v
def pk (ρ : Sl) : RV → Option D
  | .d x => some x
  | .own _ => none
  | .bor i => match ρ[i]? with
    | some (some (.own _ xs)) => some (.lst xs)
    | _ => none
def RO (K : PySem.W.Frag) (G H : Hp) (d : D) (v : V) : Prop := RD K G d v ∨ ∃ ds p vs, d = .lst ds ∧ v = .ref p ∧ H p = some (.lst vs) ∧ RDs K G ds vs
def ROs (K : PySem.W.Frag) (G H : Hp) : List D → List V → Prop
  | [], vs => vs = []
  | d :: ds, vs => ∃ x xs, vs = x :: xs ∧ RO K G H d x ∧ ROs K G H ds xs
def RNs (K : PySem.W.Frag) (G : Hp) (σ : Sg) : List RV → List V → Prop
  | [], vs => vs = []
  | d :: ds, vs => ∃ x xs, vs = x :: xs ∧ RN K G σ d x ∧ RNs K G σ ds xs
def pks (ρ : Sl) : List RV → Option (List D)
  | [] => some []
  | r :: rs => match pk ρ r, pks ρ rs with
    | some x, some xs => some (x :: xs)
    | _, _ => none
section
variable {K : PySem.W.Frag} {F : Fm} {G G' H H' : Hp} {σ : Sg} {ρ ρ' : Sl}
theorem nrm_step (R : Rep K F G H σ ρ) {r : RV} {v : V} (h : RR K F G H σ ρ r v) : ∃ G', Same G G' ∧ Rep K F G' H σ ρ ∧ RN K G' σ r.nrm v := by
  cases r with
  | d x => exact ⟨G, Same.refl G, R, h⟩
  | own xs =>
    obtain ⟨p, vs, rfl, hp, gp, fp, hr, hs⟩ := h
    exact ⟨_, Same.updN gp, R.frzP hp gp fp hs, RDs.frzP gp hr⟩
  | bor i => exact ⟨G, Same.refl G, R, h⟩
theorem RN.mono (e : Same G G') {r : RV} {v : V} (h : RN K G σ r v) : RN K G' σ r v := by
  cases r with
  | d x => exact RD.mono e _ _ h
  | own xs => exact h
  | bor i => exact h
theorem RNs.mono (e : Same G G') : ∀ {rs : List RV} {vs : List V}, RNs K G σ rs vs → RNs K G' σ rs vs
  | [], vs, h => h
  | r :: rs, vs, ⟨x, xs, e1, e2, e3⟩ => ⟨x, xs, e1, RN.mono e e2, RNs.mono e e3⟩
theorem pk_ro (R : Rep K F G H σ ρ) {r : RV} {v : V} {d : D} (h : RN K G σ r v) (e : pk ρ r = some d) : RO K G H d v := by
  cases r with
  | d x => cases e; exact .inl h
  | own xs => cases e
  | bor i =>
    dsimp only [pk] at e
    split at e
    · rename_i b xs q
      cases e
      obtain ⟨p, vs, h1, h2, h3, h4, h5, h6⟩ := R.own i b xs q
      have := h1.inj h
      cases this
      exact .inr ⟨xs, p, vs, rfl, rfl, h2, h5⟩
    · cases e
theorem pks_ros (R : Rep K F G H σ ρ) : ∀ {rs : List RV} {vs : List V} {ds : List D}, RNs K G σ rs vs → pks ρ rs = some ds → ROs K G H ds vs
  | [], vs, ds, h, e => by cases e; exact h
  | r :: rs, vs, ds, ⟨x, xs, e1, e2, e3⟩, e => by
    unfold pks at e
    split at e
    · rename_i y ys q1 q2
      cases e
      exact ⟨x, xs, e1, pk_ro R e2 q1, pks_ros R e3 q2⟩
    · cases e
theorem RO.rd (e : Same G H) {d : D} {v : V} (h : RO K G H d v) : RD K H d v := by
  rcases h with h | ⟨ds, p, vs, rfl, rfl, h1, h2⟩
  · exact RD.mono e _ _ h
  · exact ⟨p, vs, rfl, h1, RDs.mono e _ _ h2⟩
theorem RO.lst (e : Same G H) {ds : List D} {v : V} (h : RO K G H (.lst ds) v) : ∃ p vs, v = .ref p ∧ H p = some (.lst vs) ∧ RDs K G ds vs := by
  rcases h with ⟨p, vs, h1, h2, h3⟩ | ⟨ds', p, vs, h0, h1, h2, h3⟩
  · exact ⟨p, vs, h1, e _ _ h2, h3⟩
  · cases h0
    exact ⟨p, vs, h1, h2, h3⟩
theorem RO.scr (e : Same G H) {ds : List D} {v : V} (h : RO K G H (.scr ds) v) : ∃ p vs, v = .ref p ∧ SqL K H p vs ∧ RDs K G ds vs := by
  rcases h with ⟨p, vs, h1, h2, h3⟩ | ⟨ds', p, vs, h0, h1, h2, h3⟩
  · exact ⟨p, vs, h1, e.seq h2, h3⟩
  · cases h0
theorem RO.tup (e : Same G H) {ds : List D} {v : V} (h : RO K G H (.tup ds) v) : ∃ p vs, v = .ref p ∧ SqT K H p vs ∧ RDs K G ds vs := by
  rcases h with ⟨p, vs, h1, h2, h3⟩ | ⟨ds', p, vs, h0, h1, h2, h3⟩
  · exact ⟨p, vs, h1, sameT e h2, h3⟩
  · cases h0
theorem RO.dct (e : Same G H) {ks : List L2.Key} {ds : List D} {v : V} (h : RO K G H (.dct ks ds) v) : ∃ p kvs, v = .ref p ∧ H p = some (.dK kvs) ∧ kvs.map (·.1) = ks ∧ RDs K G ds (kvs.map (·.2)) := by
  rcases h with ⟨p, vs, h1, h2, h3⟩ | ⟨ds', p, vs, h0, h1, h2, h3⟩
  · exact ⟨p, vs, h1, e _ _ h2, h3⟩
  · cases h0
theorem RO.int {i : Int} {v : V} (h : RO K G H (.int i) v) : v = .int i := by
  rcases h with h | ⟨ds', p, vs, h0, h1, h2, h3⟩
  · exact h
  · cases h0
theorem RO.str {s : List Nat} {v : V} (h : RO K G H (.str s) v) : v = .str ⟨s.toArray⟩ := by
  rcases h with h | ⟨ds', p, vs, h0, h1, h2, h3⟩
  · exact h
  · cases h0
theorem RO.bl {b : Bool} {v : V} (h : RO K G H (.bl b) v) : v = .bl b := by
  rcases h with h | ⟨ds', p, vs, h0, h1, h2, h3⟩
  · exact h
  · cases h0
theorem RO.non {v : V} (h : RO K G H .non v) : v = .non := by
  rcases h with h | ⟨ds', p, vs, h0, h1, h2, h3⟩
  · exact h
  · cases h0
end
inductive RZ (K : PySem.W.Frag) (G H : Hp) : RV → V → Hp → Prop
  | same {d v} : RD K G d v → RZ K G H (.d d) v H
  | tup {p vs ds} : H p = none → RDs K G ds vs → RZ K G H (.d (.tup ds)) (.ref p) (upd H p (.tup vs))
  | lst {p vs ds} : H p = none → RDs K G ds vs → RZ K G H (.own ds) (.ref p) (upd H p (.lst vs))
theorem rz_done {K : PySem.W.Frag} {F : Fm} {G H H' : Hp} {σ : Sg} {ρ : Sl} {z : RV} {v : V} (R : Rep K F G H σ ρ) (h : RZ K G H z v H') : ∃ G', Same G G' ∧ Rep K F G' H' σ ρ ∧ RR K F G' H' σ ρ z v := by
  cases h with
  | same h => exact ⟨G, Same.refl G, R, h⟩
  | tup hn hr => exact ⟨_, Same.updN (R.gNone hn), R.newG hn, ⟨_, _, rfl, SqT.of upd_same, RDs.mono (Same.updN (R.gNone hn)) _ _ hr⟩⟩
  | lst hn hr => exact ⟨G, Same.refl G, R.new hn, ⟨_, _, rfl, upd_same, R.gNone hn, R.fNone hn, hr, R.oNe hn⟩⟩
def bC (d : D) : Ex := fun ρ => some (.d d, ρ)
def bV (i : Nat) : Ex := fun ρ => match ρ[i]? with
  | some (some (.d x)) => some (.d x, ρ)
  | some (some (.own _ _)) => some (.bor i, ρ)
  | _ => none
def bOp (g : D → D → Option RV) (fa fb : Ex) : Ex := fun ρ => match fa ρ with
  | none => none
  | some (ra, ρ1) => match fb ρ1 with
    | none => none
    | some (rb, ρ2) => match pk ρ2 ra.nrm, pk ρ2 rb.nrm with
      | some x, some y => (g x y).map fun z => (z, ρ2)
      | _, _ => none
def bUn (g : D → Option RV) (fa : Ex) : Ex := fun ρ => match fa ρ with
  | none => none
  | some (ra, ρ1) => match pk ρ1 ra.nrm with
    | some x => (g x).map fun z => (z, ρ1)
    | none => none
def aNil : Ax := fun ρ => some ([], ρ)
def aCons (f : Ex) (g : Ax) : Ax := fun ρ => match f ρ with
  | none => none
  | some (r, ρ1) => match g ρ1 with
    | none => none
    | some (rs, ρ2) => some (r.nrm :: rs, ρ2)
def bFn (g : List D → Option RV) (fs : Ax) : Ex := fun ρ => match fs ρ with
  | none => none
  | some (rs, ρ1) => match pks ρ1 rs with
    | some ds => (g ds).map fun z => (z, ρ1)
    | none => none
def frz (r : RV) (ρ : Sl) : Option (D × Sl) := match r with
  | .d x => some (x, ρ)
  | .own xs => some (.lst xs, ρ)
  | .bor i => match ρ[i]? with
    | some (some (.own false xs)) => some (.lst xs, ρ.set i (some (.d (.lst xs))))
    | _ => none
def bFz (f : Ex) : Ex := fun ρ => match f ρ with
  | none => none
  | some (r, ρ1) => (frz r ρ1).map fun q => (.d q.1, q.2)
def bIf (c : Tx) (fa fb : Ex) : Ex := fun ρ => match c ρ with
  | none => none
  | some (b, ρ1) => if b then fa ρ1 else fb ρ1
def OpD (K : PySem.W.Frag) (r : R2) (g : D → D → Option RV) : Prop := ∀ (G H : Hp) (x y : V) (dx dy : D) (z : RV), Same G H → RO K G H dx x → RO K G H dy y → g dx dy = some z → ∀ Q : VK, (∀ v H', RZ K G H z v H' → Q v H') → r x y H Q
def UnD (K : PySem.W.Frag) (r : V → Hp → VK → Prop) (g : D → Option RV) : Prop := ∀ (G H : Hp) (x : V) (dx : D) (z : RV), Same G H → RO K G H dx x → g dx = some z → ∀ Q : VK, (∀ v H', RZ K G H z v H' → Q v H') → r x H Q
def FnD (K : PySem.W.Frag) (r : List V → Hp → VK → Prop) (g : List D → Option RV) : Prop := ∀ (G H : Hp) (xs : List V) (ds : List D) (z : RV), Same G H → ROs K G H ds xs → g ds = some z → ∀ Q : VK, (∀ v H', RZ K G H z v H' → Q v H') → r xs H Q
def tAr (K : PySem.W.Frag) (f : Ax) : TA := fun σ H Q => ∃ F G ρ rs ρ', Rep K F G H σ ρ ∧ f ρ = some (rs, ρ') ∧ ∀ vs G' H', Same G G' → Rep K F G' H' σ ρ' → RNs K G' σ rs vs → Q vs H'
def PAv (X : Cx) (es : List Expr) (f : Ax) : Prop := PA X es (tAr X.K f)
section
variable {X : Cx} {a b e : Expr} {es : List Expr} {fa fb : Ex} {pos : Pos}
theorem read2 {K : PySem.W.Frag} {g : D → D → Option RV} {r : R2} (hg : OpD K r g) {σ : Sg} {H : Hp} {Q : VK} (h : tE K (bOp g fa fb) σ H Q) : tOp r (tE K fa) (tE K fb) σ H Q := by
  obtain ⟨F, G, ρ, z, ρ', R, e, k⟩ := h
  unfold bOp at e
  split at e
  · cases e
  rename_i ra ρ1 e1
  split at e
  · cases e
  rename_i rb ρ2 e2
  split at e
  rotate_left
  · cases e
  rename_i dx dy p1 p2
  obtain ⟨z', ez, eq⟩ := Option.map_eq_some_iff.mp e
  cases eq
  refine ⟨F, G, ρ, ra, ρ1, R, e1, fun x G1 H1 s1 R1 q1 => ?_⟩
  obtain ⟨G1', t1, R1', n1⟩ := nrm_step R1 q1
  refine ⟨F, G1', ρ1, rb, _, R1', e2, fun y G2 H2 s2 R2 q2 => ?_⟩
  obtain ⟨G2', t2, R2', n2⟩ := nrm_step R2 q2
  refine hg G2' H2 x y dx dy _ R2'.gh (pk_ro R2' (n1.mono (s2.trans t2)) p1) (pk_ro R2' n2 p2) ez Q fun v H' hz => ?_
  obtain ⟨G3, t3, R3, q3⟩ := rz_done R2' hz
  exact k v G3 H' ((((s1.trans t1).trans s2).trans t2).trans t3) R3 q3
theorem read1 {K : PySem.W.Frag} {g : D → Option RV} {r : V → Hp → VK → Prop} (hg : UnD K r g) {σ : Sg} {H : Hp} {Q : VK} (h : tE K (bUn g fa) σ H Q) : tUn r (tE K fa) σ H Q := by
  obtain ⟨F, G, ρ, z, ρ', R, e, k⟩ := h
  unfold bUn at e
  split at e
  · cases e
  rename_i ra ρ1 e1
  split at e
  rotate_left
  · cases e
  rename_i dx p1
  obtain ⟨z', ez, eq⟩ := Option.map_eq_some_iff.mp e
  cases eq
  refine ⟨F, G, ρ, ra, _, R, e1, fun x G1 H1 s1 R1 q1 => ?_⟩
  obtain ⟨G1', t1, R1', n1⟩ := nrm_step R1 q1
  refine hg G1' H1 x dx _ R1'.gh (pk_ro R1' n1 p1) ez Q fun v H' hz => ?_
  obtain ⟨G3, t3, R3, q3⟩ := rz_done R1' hz
  exact k v G3 H' ((s1.trans t1).trans t3) R3 q3
theorem readA {K : PySem.W.Frag} {g : List D → Option RV} {fs : Ax} {r : List V → Hp → VK → Prop} (hg : FnD K r g) {σ : Sg} {H : Hp} {Q : VK} (h : tE K (bFn g fs) σ H Q) : tCB r (tAr K fs) σ H Q := by
  obtain ⟨F, G, ρ, z, ρ', R, e, k⟩ := h
  unfold bFn at e
  split at e
  · cases e
  rename_i rs ρ1 e1
  split at e
  rotate_left
  · cases e
  rename_i ds p1
  obtain ⟨z', ez, eq⟩ := Option.map_eq_some_iff.mp e
  cases eq
  refine ⟨F, G, ρ, rs, _, R, e1, fun vs G1 H1 s1 R1 q1 => ?_⟩
  refine hg G1 H1 vs ds _ R1.gh (pks_ros R1 q1 p1) ez Q fun v H' hz => ?_
  obtain ⟨G3, t3, R3, q3⟩ := rz_done R1 hz
  exact k v G3 H' (s1.trans t3) R3 q3
theorem av_nil : PAv X [] aNil := PA.imp pa_nil fun σ H Q h => by
  obtain ⟨F, G, ρ, rs, ρ', R, e, k⟩ := h
  cases e
  exact k [] G H (Same.refl G) R rfl
theorem av_cons {f : Ax} (he : PEv X e fa) (hs : PAv X es f) (hst : starEach (e :: es) X.env = (false, eval e X.env) :: starEach es X.env := by rfl) : PAv X (e :: es) (aCons fa f) := PA.imp (pa_cons he hs hst) fun σ H Q h => by
  obtain ⟨F, G, ρ, rs, ρ', R, q, k⟩ := h
  unfold aCons at q
  split at q
  · cases q
  rename_i ra ρ1 e1
  split at q
  · cases q
  rename_i rb ρ2 e2
  cases q
  refine ⟨F, G, ρ, ra, ρ1, R, e1, fun x G1 H1 s1 R1 q1 => ?_⟩
  obtain ⟨G1', t1, R1', n1⟩ := nrm_step R1 q1
  refine ⟨F, G1', ρ1, rb, _, R1', e2, fun ys G2 H2 s2 R2 q2 => ?_⟩
  exact k _ G2 H2 ((s1.trans t1).trans s2) R2 ⟨x, ys, rfl, n1.mono s2, q2⟩
theorem ev_var {i : Nat} {x : Str} (h : PE X (.Name x pos) (tVar i)) : PEv X (.Name x pos) (bV i) := PE.imp h fun σ H Q h => by
  obtain ⟨F, G, ρ, r, ρ', R, q, k⟩ := h
  unfold bV at q
  split at q
  · rename_i x e
    cases q
    obtain ⟨v, h1, h2⟩ := R.dat i x e
    exact ⟨v, h1, k v G H (Same.refl G) R h2⟩
  · rename_i b xs e
    cases q
    obtain ⟨p, vs, h1, h2⟩ := R.own i b xs e
    exact ⟨.ref p, h1, k _ G H (Same.refl G) R h1⟩
  · cases q
theorem ev_const {d : D} {v : V} (h : PE X e (tC v)) (hd : ∀ G, RD X.K G d v) : PEv X e (bC d) := PE.imp h fun σ H Q h => by
  obtain ⟨F, G, ρ, r, ρ', R, q, k⟩ := h
  cases q
  exact k v G H (Same.refl G) R (hd G)
theorem ev_fz (h : PEv X e fa) : PEv X e (bFz fa) := PE.imp h fun σ H Q h => by
  obtain ⟨F, G, ρ, r, ρ', R, q, k⟩ := h
  unfold bFz at q
  split at q
  · cases q
  rename_i ra ρ1 e1
  obtain ⟨⟨d, ρ2⟩, ez, eq⟩ := Option.map_eq_some_iff.mp q
  cases eq
  refine ⟨F, G, ρ, ra, ρ1, R, e1, fun x G1 H1 s1 R1 q1 => ?_⟩
  cases ra with
  | d y => cases ez; exact k x G1 H1 s1 R1 q1
  | own xs =>
    cases ez
    obtain ⟨p, vs, rfl, hp, gp, fp, hr, hs⟩ := q1
    exact k _ _ H1 (s1.trans (Same.updN gp)) (R1.frzP hp gp fp hs) (RDs.frzP gp hr)
  | bor i =>
    unfold frz at ez
    dsimp only at ez
    split at ez
    · rename_i xs e
      cases ez
      obtain ⟨p, vs, h1, h2, h3, h4⟩ := R1.frzS e
      have q1' : vAt σ i x := q1
      have := h1.inj q1'
      cases this
      exact k _ _ H1 (s1.trans h2) h3 h4
    · cases ez
theorem ev_op {op : Operator} {r : R2} {g : D → D → Option RV} (ho : OpR X (binaryOp op) r) (hg : OpD X.K r g) (ha : PEv X a fa) (hb : PEv X b fb) : PEv X (.BinOp a op b pos) (bOp g fa fb) :=
  PE.imp (pe_op ho ha hb) fun _ _ _ h => read2 hg h
theorem ev_un {op : UnaryOp} {r : V → Hp → VK → Prop} {g : D → Option RV} (ho : UnR X (unaryOp op) r) (hg : UnD X.K r g) (ha : PEv X a fa) : PEv X (.UnaryOp op a pos) (bUn g fa) :=
  PE.imp (pe_un ho ha) fun _ _ _ h => read1 hg h
theorem ev_cmp {op : CmpOp} {r : R2} {g : D → D → Option RV} (ho : OpR X (compareOp op) r) (hg : OpD X.K r g) (hm : behindInMarks op b = false) (ha : PEv X a fa) (hb : PEv X b fb) : PEv X (.Compare a [op] [b] pos) (bOp g fa fb) :=
  PE.imp (pe_cmpR ho ha hb hm) fun _ _ _ h => read2 hg h
theorem ev_ix {r : R2} {g : D → D → Option RV} (ho : IxR X r) (hg : OpD X.K r g) (hs : PlainIx b) (ha : PEv X a fa) (hb : PEv X b fb) : PEv X (.Subscript a b pos) (bOp g fa fb) :=
  PE.imp (pe_ix ho ha hb hs) fun _ _ _ h => read2 hg h
theorem OpD.or {K : PySem.W.Frag} {r r' : R2} {g g' : D → D → Option RV} (h : OpD K r g) (h' : OpD K r' g') : OpD K (fun x y H Q => r x y H Q ∨ r' x y H Q) (fun x y => match g x y with | some z => some z | none => g' x y) := by
  intro G H x y dx dy z s hx hy e Q k
  dsimp only at e
  split at e
  · rename_i w q
    cases e
    exact .inl (h G H x y dx dy z s hx hy q Q k)
  · exact .inr (h' G H x y dx dy z s hx hy e Q k)
theorem FnD.or {K : PySem.W.Frag} {r r' : List V → Hp → VK → Prop} {g g' : List D → Option RV} (h : FnD K r g) (h' : FnD K r' g') : FnD K (fun x H Q => r x H Q ∨ r' x H Q) (fun x => match g x with | some z => some z | none => g' x) := by
  intro G H x dx z s hx e Q k
  dsimp only at e
  split at e
  · rename_i w q
    cases e
    exact .inl (h G H x dx z s hx q Q k)
  · exact .inr (h' G H x dx z s hx e Q k)
end
end M
namespace M
open PySem L2
def bT (f : Ex) : Tx := fun ρ => match f ρ with
  | some (.d (.bl b), ρ1) => some (b, ρ1)
  | _ => none
def bAnd (f g : Tx) : Tx := fun ρ => match f ρ with
  | none => none
  | some (b, ρ1) => if b then g ρ1 else some (false, ρ1)
def bOr (f g : Tx) : Tx := fun ρ => match f ρ with
  | none => none
  | some (b, ρ1) => if b then some (true, ρ1) else g ρ1
def bNot (f : Tx) : Tx := fun ρ => match f ρ with
  | none => none
  | some (b, ρ1) => some (!b, ρ1)
def bOfT (f : Tx) : Ex := fun ρ => match f ρ with
  | none => none
  | some (b, ρ1) => some (.d (.bl b), ρ1)
section
variable {X : Cx} {a b e : Expr} {es : List Expr} {fa fb : Ex} {ta tb : Tx} {pos : Pos}
theorem readT {K : PySem.W.Frag} {σ : Sg} {H : Hp} {Q : Bool → Hp → Prop} (h : tT K (bT fa) σ H Q) : tE K fa σ H fun x H1 => ∃ c, x = .bl c ∧ Q c H1 := by
  obtain ⟨F, G, ρ, b, ρ', R, q, k⟩ := h
  unfold bT at q
  split at q
  · rename_i b' ρ1 e
    cases q
    exact ⟨F, G, ρ, _, _, R, e, fun v G' H' s R' r => ⟨b, r, k G' H' s R'⟩⟩
  · cases q
theorem tv_val (h : PEv X e fa) (he : ∀ whole, isTrue e X.env whole = (do let v ← whole; standAt e.pos; holding [v] (truthy v)) := by intro _; rfl) : PTv X e (bT fa) :=
  PT.imp (pt_val h he) fun σ H Q h => readT h
theorem tv_cmp {op : CmpOp} {r : R2} {g : D → D → Option RV} (ho : OpR X (compareOp op) r) (hg : OpD X.K r g) (hm : behindInMarks op b = false) (ha : PEv X a fa) (hb : PEv X b fb) : PTv X (.Compare a [op] [b] pos) (bT (bOp g fa fb)) := by
  refine PT.imp (pt_cmpR ho ha hb hm) fun σ H Q h => ?_
  exact read2 hg (Q := fun x H1 => ∃ c, x = .bl c ∧ Q c H1) (readT h)
theorem wv_one_and (h : PTv X e ta) : PWv X (.BoolOp .And [e] pos) ta := pw_and1 h
theorem wv_one_or (h : PTv X e ta) : PWv X (.BoolOp .Or [e] pos) ta := pw_or1 h
theorem wv_and {rest : List Expr} (h : PTv X a ta) (k : PWv X (.BoolOp .And (b :: rest) pos) tb) : PWv X (.BoolOp .And (a :: b :: rest) pos) (bAnd ta tb) := by
  refine PW.imp (pw_and h k) fun σ H Q h => ?_
  obtain ⟨F, G, ρ, c, ρ', R, q, k⟩ := h
  unfold bAnd at q
  split at q
  · cases q
  rename_i c1 ρ1 e1
  refine ⟨F, G, ρ, c1, ρ1, R, e1, fun G1 H1 s1 R1 => ?_⟩
  cases c1 with
  | true => exact iteT ⟨F, G1, ρ1, c, ρ', R1, q, fun G2 H2 s2 R2 => k G2 H2 (s1.trans s2) R2⟩
  | false => cases q; exact iteF (k G1 H1 s1 R1)
theorem wv_or {rest : List Expr} (h : PTv X a ta) (k : PWv X (.BoolOp .Or (b :: rest) pos) tb) : PWv X (.BoolOp .Or (a :: b :: rest) pos) (bOr ta tb) := by
  refine PW.imp (pw_or h k) fun σ H Q h => ?_
  obtain ⟨F, G, ρ, c, ρ', R, q, k⟩ := h
  unfold bOr at q
  split at q
  · cases q
  rename_i c1 ρ1 e1
  refine ⟨F, G, ρ, c1, ρ1, R, e1, fun G1 H1 s1 R1 => ?_⟩
  cases c1 with
  | true => cases q; exact iteT (k G1 H1 s1 R1)
  | false => exact iteF ⟨F, G1, ρ1, c, ρ', R1, q, fun G2 H2 s2 R2 => k G2 H2 (s1.trans s2) R2⟩
theorem tv_w (h : PWv X e ta) : PTv X e ta := PW.pt h
theorem tv_not (h : PTv X a ta) : PTv X (.UnaryOp .Not a pos) (bNot ta) := by
  refine PT.imp (pt_not h) fun σ H Q h => ?_
  obtain ⟨F, G, ρ, c, ρ', R, q, k⟩ := h
  unfold bNot at q
  split at q
  · cases q
  rename_i c1 ρ1 e1
  cases q
  exact ⟨F, G, ρ, c1, _, R, e1, fun G1 H1 s1 R1 => k G1 H1 s1 R1⟩
theorem ev_ifE (hc : PTv X e ta) (ha : PEv X a fa) (hb : PEv X b fb) : PEv X (.IfExp e a b pos) (bIf ta fa fb) := by
  refine PE.imp (pe_ifExp hc ha hb) fun σ H Q h => ?_
  obtain ⟨F, G, ρ, r, ρ', R, q, k⟩ := h
  unfold bIf at q
  split at q
  · cases q
  rename_i c1 ρ1 e1
  refine ⟨F, G, ρ, c1, ρ1, R, e1, fun G1 H1 s1 R1 => ?_⟩
  cases c1 with
  | true => exact iteT ⟨F, G1, ρ1, r, ρ', R1, q, fun v G2 H2 s2 R2 => k v G2 H2 (s1.trans s2) R2⟩
  | false => exact iteF ⟨F, G1, ρ1, r, ρ', R1, q, fun v G2 H2 s2 R2 => k v G2 H2 (s1.trans s2) R2⟩
def bAndV (f g : Ex) : Ex := fun ρ => match f ρ with
  | some (.d (.bl b), ρ1) => if b then g ρ1 else some (.d (.bl false), ρ1)
  | _ => none
def bOrV (f g : Ex) : Ex := fun ρ => match f ρ with
  | some (.d (.bl b), ρ1) => if b then some (.d (.bl true), ρ1) else g ρ1
  | _ => none
def bNotV (f : Ex) : Ex := fun ρ => match f ρ with
  | some (.d (.bl b), ρ1) => some (.d (.bl (!b)), ρ1)
  | _ => none
theorem ev_one {op} (h : PEv X a fa) : PEv X (.BoolOp op [a] pos) fa := pe_one h
theorem ev_and {rest : List Expr} (ha : PEv X a fa) (hb : PEv X (.BoolOp .And (b :: rest) pos) fb) : PEv X (.BoolOp .And (a :: b :: rest) pos) (bAndV fa fb) := by
  refine PE.imp (pe_and ha hb) fun σ H Q h => ?_
  obtain ⟨F, G, ρ, r, ρ', R, q, k⟩ := h
  unfold bAndV at q
  split at q
  · rename_i c1 ρ1 e1
    refine ⟨F, G, ρ, _, ρ1, R, e1, fun v G1 H1 s1 R1 r1 => ⟨c1, r1, ?_⟩⟩
    cases c1 with
    | true => exact iteT ⟨F, G1, ρ1, r, ρ', R1, q, fun v G2 H2 s2 R2 => k v G2 H2 (s1.trans s2) R2⟩
    | false => cases q; exact iteF (k _ G1 H1 s1 R1 rfl)
  · cases q
theorem ev_or {rest : List Expr} (ha : PEv X a fa) (hb : PEv X (.BoolOp .Or (b :: rest) pos) fb) : PEv X (.BoolOp .Or (a :: b :: rest) pos) (bOrV fa fb) := by
  refine PE.imp (pe_or ha hb) fun σ H Q h => ?_
  obtain ⟨F, G, ρ, r, ρ', R, q, k⟩ := h
  unfold bOrV at q
  split at q
  · rename_i c1 ρ1 e1
    refine ⟨F, G, ρ, _, ρ1, R, e1, fun v G1 H1 s1 R1 r1 => ⟨c1, r1, ?_⟩⟩
    cases c1 with
    | true => cases q; exact iteT (k _ G1 H1 s1 R1 rfl)
    | false => exact iteF ⟨F, G1, ρ1, r, ρ', R1, q, fun v G2 H2 s2 R2 => k v G2 H2 (s1.trans s2) R2⟩
  · cases q
theorem ev_not (ha : PEv X a fa) : PEv X (.UnaryOp .Not a pos) (bNotV fa) := by
  refine PE.imp (pe_not ha) fun σ H Q h => ?_
  obtain ⟨F, G, ρ, r, ρ', R, q, k⟩ := h
  unfold bNotV at q
  split at q
  · rename_i c1 ρ1 e1
    cases q
    exact ⟨F, G, ρ, _, _, R, e1, fun v G1 H1 s1 R1 r1 => ⟨c1, r1, k _ G1 H1 s1 R1 rfl⟩⟩
  · cases q
end
def FQ (K : PySem.W.Frag) (F : Fm) (D : Ends) (fl : Fl) (G H : Hp) (σ : Sg) (ρ : Sl) : Prop := match fl with
  | .nx => D.nx σ H
  | .bk => D.bk σ H
  | .ct => D.ct σ H
  | .rt r => ∀ v, RR K F G H σ ρ r v → D.rt v H
def tS (K : PySem.W.Frag) (f : Sx) : TS := fun D σ H => ∃ F G ρ fl ρ', Rep K F G H σ ρ ∧ f ρ = some (fl, ρ') ∧ ∀ σ' G' H', Same G G' → Rep K F G' H' σ' ρ' → FQ K F D fl G' H' σ' ρ'
def PSv (X : Cx) (st : Stmt) (f : Sx) : Prop := PS X st (tS X.K f)
def PBv (X : Cx) (st : List Stmt) (f : Sx) : Prop := PSs X st (tS X.K f)
def sNx : Sx := fun ρ => some (.nx, ρ)
def sBk : Sx := fun ρ => some (.bk, ρ)
def sCt : Sx := fun ρ => some (.ct, ρ)
def sSeq (f g : Sx) : Sx := fun ρ => match f ρ with
  | some (.nx, ρ1) => g ρ1
  | o => o
def sIf (c : Tx) (f g : Sx) : Sx := fun ρ => match c ρ with
  | none => none
  | some (b, ρ1) => if b then f ρ1 else g ρ1
def sDrop (f : Ex) : Sx := fun ρ => match f ρ with
  | none => none
  | some (_, ρ1) => some (.nx, ρ1)
def sRet (f : Ex) : Sx := fun ρ => match f ρ with
  | none => none
  | some (r, ρ1) => some (.rt r, ρ1)
def sRetN : Sx := fun ρ => some (.rt (.d .non), ρ)
def putR (i : Nat) (r : RV) (ρ : Sl) : Option Sl := match r with
  | .d x => some (ρ.set i (some (.d x)))
  | .own xs => some (ρ.set i (some (.own false xs)))
  | .bor _ => none
def sSet (i : Nat) (f : Ex) : Sx := fun ρ => match f ρ with
  | none => none
  | some (r, ρ1) => (putR i r ρ1).map fun ρ2 => (.nx, ρ2)
def sPar (i j : Nat) (f g : Ex) : Sx := fun ρ => match f ρ with
  | none => none
  | some (r, ρ1) => match g ρ1 with
    | none => none
    | some (q, ρ2) => match putR i r ρ2 with
      | none => none
      | some ρ3 => (putR j q ρ3).map fun ρ4 => (.nx, ρ4)
section
variable {X : Cx} {e : Expr} {st : Stmt} {rest : List Stmt} {fa fb : Ex} {f g : Sx} {pos : Pos} {tc : Tx}
theorem sv_pass : PSv X (.Pass pos) sNx := PS.imp ps_pass fun D σ H h => by
  obtain ⟨F, G, ρ, fl, ρ', R, q, k⟩ := h
  cases q; exact k σ G H (Same.refl G) R
theorem sv_break : PSv X (.Break pos) sBk := PS.imp ps_break fun D σ H h => by
  obtain ⟨F, G, ρ, fl, ρ', R, q, k⟩ := h
  cases q; exact k σ G H (Same.refl G) R
theorem sv_cont : PSv X (.Continue pos) sCt := PS.imp ps_continue fun D σ H h => by
  obtain ⟨F, G, ρ, fl, ρ', R, q, k⟩ := h
  cases q; exact k σ G H (Same.refl G) R
theorem bv_nil : PBv X [] sNx := PSs.imp pss_nil fun D σ H h => by
  obtain ⟨F, G, ρ, fl, ρ', R, q, k⟩ := h
  cases q; exact k σ G H (Same.refl G) R
theorem FQ.nx {K : PySem.W.Frag} {F : Fm} {D : Ends} {n : St → Hp → Prop} {fl : Fl} {G H : Hp} {σ : Sg} {ρ : Sl} (hn : fl ≠ .nx) (h : FQ K F D fl G H σ ρ) : FQ K F { D with nx := n } fl G H σ ρ := by
  cases fl with
  | nx => exact absurd rfl hn
  | bk => exact h
  | ct => exact h
  | rt r => exact h
theorem bv_cons (h : PSv X st f) (k : PBv X rest g) : PBv X (st :: rest) (sSeq f g) := PSs.imp (pss_cons h k) fun D σ H h => by
  obtain ⟨F, G, ρ, fl, ρ', R, q, k⟩ := h
  unfold sSeq at q
  split at q
  · rename_i ρ1 e1
    refine ⟨F, G, ρ, .nx, ρ1, R, e1, fun σ1 G1 H1 s1 R1 => ?_⟩
    exact ⟨F, G1, ρ1, fl, ρ', R1, q, fun σ2 G2 H2 s2 R2 => k σ2 G2 H2 (s1.trans s2) R2⟩
  · rename_i o ho
    refine ⟨F, G, ρ, fl, ρ', R, q, fun σ1 G1 H1 s1 R1 => FQ.nx (fun z => ?_) (k σ1 G1 H1 s1 R1)⟩
    subst z
    exact ho _ q
theorem bv_one (h : PSv X st f) : PBv X [st] f := pss_one h
theorem sv_if {a b : List Stmt} (hc : PTv X e tc) (ha : PBv X a f) (hb : PBv X b g) : PSv X (.If e a b pos) (sIf tc f g) := PS.imp (ps_if hc ha hb) fun D σ H h => by
  obtain ⟨F, G, ρ, fl, ρ', R, q, k⟩ := h
  unfold sIf at q
  split at q
  · cases q
  rename_i c1 ρ1 e1
  refine ⟨F, G, ρ, c1, ρ1, R, e1, fun G1 H1 s1 R1 => ?_⟩
  cases c1 with
  | true => exact iteT ⟨F, G1, ρ1, fl, ρ', R1, q, fun σ2 G2 H2 s2 R2 => k σ2 G2 H2 (s1.trans s2) R2⟩
  | false => exact iteF ⟨F, G1, ρ1, fl, ρ', R1, q, fun σ2 G2 H2 s2 R2 => k σ2 G2 H2 (s1.trans s2) R2⟩
theorem sv_expr (h : PEv X e fa) (hs : swapsWith e none pos.line X.env = pure false := by rfl) : PSv X (.Expr e pos) (sDrop fa) := PS.imp (ps_expr h hs) fun D σ H h => by
  obtain ⟨F, G, ρ, fl, ρ', R, q, k⟩ := h
  unfold sDrop at q
  split at q
  · cases q
  rename_i r ρ1 e1
  cases q
  exact ⟨F, G, ρ, r, _, R, e1, fun v G1 H1 s1 R1 _ => k σ G1 H1 s1 R1⟩
theorem sv_ret (h : PEv X e fa) : PSv X (.Return (some e) pos) (sRet fa) := PS.imp (ps_ret h) fun D σ H h => by
  obtain ⟨F, G, ρ, fl, ρ', R, q, k⟩ := h
  unfold sRet at q
  split at q
  · cases q
  rename_i r ρ1 e1
  cases q
  exact ⟨F, G, ρ, r, _, R, e1, fun v G1 H1 s1 R1 q => k σ G1 H1 s1 R1 v q⟩
theorem sv_retN : PSv X (.Return none pos) sRetN := PS.imp ps_retN fun D σ H h => by
  obtain ⟨F, G, ρ, fl, ρ', R, q, k⟩ := h
  cases q
  exact k σ G H (Same.refl G) R .non rfl
theorem Rep.put {K : PySem.W.Frag} {F : Fm} {G H : Hp} {σ : Sg} {ρ ρ' : Sl} {i : Nat} {r : RV} {v : V} (R : Rep K F G H σ ρ) (h : RR K F G H σ ρ r v) (e : putR i r ρ = some ρ') : Rep K F G H (σ.set i (some v)) ρ' := by
  cases r with
  | d x => cases e; exact R.setD h
  | own xs => cases e; exact R.setO h
  | bor i => cases e
theorem sv_set {i : Nat} {x : Str} {pos' : Pos} (h : PEv X e fa) (hp : PS X (.Assign [.Name x pos'] e pos) (tAsg (tE X.K fa) (gName i))) : PSv X (.Assign [.Name x pos'] e pos) (sSet i fa) := PS.imp hp fun D σ H h => by
  obtain ⟨F, G, ρ, fl, ρ', R, q, k⟩ := h
  unfold sSet at q
  split at q
  · cases q
  rename_i r ρ1 e1
  obtain ⟨ρ2, e2, eq⟩ := Option.map_eq_some_iff.mp q
  cases eq
  exact ⟨F, G, ρ, r, _, R, e1, fun v G1 H1 s1 R1 q => k _ G1 H1 s1 (R1.put q e2)⟩
end
end M
namespace M
open PySem L2
theorem RZ.mono {K : PySem.W.Frag} {G G' H H' : Hp} {z : RV} {v : V} (s : Same G G') (h : RZ K G H z v H') : RZ K G' H z v H' := by
  cases h with
  | same h => exact .same (RD.mono s _ _ h)
  | tup hn hr => exact .tup hn (RDs.mono s _ _ hr)
  | lst hn hr => exact .lst hn (RDs.mono s _ _ hr)
theorem RR.lent {K : PySem.W.Frag} {F : Fm} {G H : Hp} {σ : Sg} {ρ : Sl} {p : Addr} {o : HO} {r : RV} {v : V} (fp : F.hp p = none) (h : RR K ⟨upd F.hp p o, F.par⟩ G H σ ρ r v) : RR K F G H σ ρ r v ∧ (∀ xs, r = .own xs → v ≠ .ref p) := by
  cases r with
  | d x => exact ⟨h, fun _ e => nomatch e⟩
  | bor i => exact ⟨h, fun _ e => nomatch e⟩
  | own xs =>
    obtain ⟨q, vs, rfl, hp, gp, hq, hr, hs⟩ := h
    have hq : upd F.hp p o q = none := hq
    by_cases e : q = p
    · rw [e, upd_same] at hq; cases hq
    · rw [upd_ne e] at hq
      exact ⟨⟨q, vs, rfl, hp, gp, hq, hr, hs⟩, fun _ _ z => e (by cases z; rfl)⟩
theorem RR.put {K : PySem.W.Frag} {F : Fm} {G H : Hp} {σ : Sg} {ρ ρ' : Sl} {i : Nat} {r q : RV} {v w : V} (e : putR i r ρ = some ρ') (hq : RR K F G H σ ρ q w) (hn : ∀ j, q ≠ .bor j) (hd : ∀ xs ys, r = .own xs → q = .own ys → v ≠ w) : RR K F G H (σ.set i (some v)) ρ' q w := by
  cases q with
  | d x => exact hq
  | bor j => exact absurd rfl (hn j)
  | own ys =>
    obtain ⟨p, vs, rfl, hp, gp, fp, hr, hs⟩ := hq
    refine ⟨p, vs, rfl, hp, gp, fp, hr, fun j b zs h1 h2 => ?_⟩
    cases r with
    | bor j => cases e
    | d x =>
      cases e
      rcases h1.of_set with ⟨_, z, _⟩ | ⟨hj, h1⟩
      · cases z
      rcases h2.of_set with ⟨z, _, _⟩ | ⟨_, h2⟩
      · exact hj z
      exact hs j b zs h1 h2
    | own xs =>
      cases e
      rcases h2.of_set with ⟨z1, z2, _⟩ | ⟨hj, h2⟩
      · cases z2
        exact hd xs ys rfl rfl rfl
      · rcases h1.of_set with ⟨z, _, _⟩ | ⟨_, h1⟩
        · exact hj z
        · exact hs j b zs h1 h2
section
variable {X : Cx}
theorem read_par {K : PySem.W.Frag} {i j : Nat} {fa fb : Ex} {D : Ends} {σ : Sg} {H : Hp} (h : tS K (sPar i j fa fb) D σ H) : tPar i j (tCons (tE K fa) (tCons (tE K fb) tNil)) D σ H := by
  obtain ⟨F, G, ρ, fl, ρ', R, q, k⟩ := h
  unfold sPar at q
  split at q
  · cases q
  rename_i r ρ1 e1
  split at q
  · cases q
  rename_i u ρ2 e2
  split at q
  · cases q
  rename_i ρ3 e3
  obtain ⟨ρ4, e4, eq⟩ := Option.map_eq_some_iff.mp q
  cases eq
  refine ⟨F, G, ρ, r, ρ1, R, e1, fun v G1 H1 s1 R1 q1 => ?_⟩
  have hu : ∀ j, u ≠ .bor j := fun j z => by subst z; cases e4
  cases r with
  | bor i => cases e3
  | d x =>
    refine ⟨F, G1, ρ1, u, ρ2, R1, e2, fun w G2 H2 s2 R2 q2 => ⟨v, w, rfl, ?_⟩⟩
    have q1' : RR K F G2 H2 σ ρ2 (.d x) v := RD.mono s2 _ _ q1
    exact k _ G2 H2 (s1.trans s2) ((R2.put q1' e3).put (RR.put e3 q2 hu fun _ _ z => nomatch z) e4)
  | own xs =>
    obtain ⟨p, vs, rfl, hp, gp, fp, hr, hs⟩ := q1
    refine ⟨⟨upd F.hp p (.lst vs), F.par⟩, G1, ρ1, u, ρ2, R1.lend hp gp hs, e2, fun w G2 H2 s2 R2 q2 => ⟨.ref p, w, rfl, ?_⟩⟩
    obtain ⟨R2', hp2, gp2, ns2⟩ := R2.back fp
    obtain ⟨q2', ne⟩ := q2.lent fp
    have q1' : RR K F G2 H2 σ ρ2 (.own xs) (.ref p) := ⟨p, vs, rfl, hp2, gp2, fp, RDs.mono s2 _ _ hr, ns2⟩
    exact k _ G2 H2 (s1.trans s2) ((R2'.put q1' e3).put (RR.put e3 q2' hu fun _ ys _ z z2 => ne ys z z2.symm) e4)
def dsOf : List RV → Option (List D)
  | [] => some []
  | .d x :: rs => (dsOf rs).map fun xs => x :: xs
  | _ => none
theorem ds_of {K : PySem.W.Frag} {G : Hp} {σ : Sg} : ∀ {rs : List RV} {vs : List V} {ds : List D}, RNs K G σ rs vs → dsOf rs = some ds → RDs K G ds vs
  | [], vs, ds, h, e => by cases e; exact h
  | .d x :: rs, vs, ds, ⟨v, us, e1, e2, e3⟩, e => by
    obtain ⟨xs, h1, h2⟩ := Option.map_eq_some_iff.mp e
    subst h2
    exact ⟨v, us, e1, e2, ds_of e3 h1⟩
  | .own _ :: _, _, _, _, e => by cases e
  | .bor _ :: _, _, _, _, e => by cases e
def bMu (i : Nat) (g : List D → List D → Option (List D × D)) (fs : Ax) : Ex := fun ρ => match ρ[i]? with
  | some (some (.own _ _)) => match fs ρ with
    | none => none
    | some (rs, ρ1) => match ρ1[i]? with
      | some (some (.own b xs)) => match dsOf rs with
        | none => none
        | some ds => match g xs ds with
          | none => none
          | some (ys, z) => some (.d z, ρ1.set i (some (.own b ys)))
      | _ => none
  | _ => none
def MuD (K : PySem.W.Frag) (r : V → List V → Hp → VK → Prop) (g : List D → List D → Option (List D × D)) : Prop :=
  ∀ (G H : Hp) (p : Addr) (vs us : List V) (xs ds ys : List D) (z : D), Same G H → H p = some (.lst vs) → G p = none → RDs K G xs vs → RDs K G ds us → g xs ds = some (ys, z) →
    ∀ Q : VK, (∀ ws v, RDs K G ys ws → RD K G z v → Q v (upd H p (.lst ws))) → r (.ref p) us H Q
theorem read_mu {K : PySem.W.Frag} {i : Nat} {g : List D → List D → Option (List D × D)} {fs : Ax} {r : V → List V → Hp → VK → Prop} (hg : MuD K r g) {σ : Sg} {H : Hp} {Q : VK} (h : tE K (bMu i g fs) σ H Q) :
    tBM K "list" r (tVar i) (tAr K fs) σ H Q := by
  obtain ⟨F, G, ρ, z, ρ', R, e, k⟩ := h
  unfold bMu at e
  split at e
  rotate_left
  · cases e
  rename_i b0 xs0 o0
  split at e
  · cases e
  rename_i rs ρ1 e1
  split at e
  rotate_left
  · cases e
  rename_i b xs o1
  split at e
  · cases e
  rename_i ds e2
  split at e
  · cases e
  rename_i ys z e3
  cases e
  obtain ⟨p, vs0, h1, h2, h3, h4, h5, h6⟩ := R.own i b0 xs0 o0
  refine ⟨.ref p, h1, .inl ⟨rfl, vs0, SqL.of h2⟩, F, G, ρ, rs, ρ1, R, e1, fun us G1 H1 s1 R1 q1 => ?_⟩
  obtain ⟨p', vs, g1, g2, g3, g4, g5, g6⟩ := R1.own i b xs o1
  have ep : p' = p := by cases g1.inj h1; rfl
  subst ep
  refine hg G1 H1 p' vs us xs ds ys z R1.gh g2 g3 g5 (ds_of q1 e2) e3 Q fun ws v hw hv => ?_
  exact k v G1 _ s1 (R1.wr o1 g1 hw) hv
def bMu0 (i : Nat) (g : List D → List D → Option (List D × D)) : Ex := bMu i g aNil
theorem read_mu0 {K : PySem.W.Frag} {i : Nat} {g : List D → List D → Option (List D × D)} {r : V → List V → Hp → VK → Prop} (hg : MuD K r g) {σ : Sg} {H : Hp} {Q : VK} (h : tE K (bMu0 i g) σ H Q) :
    tBM0 K "list" r (tVar i) σ H Q := by
  obtain ⟨F, G, ρ, z, ρ', R, e, k⟩ := h
  unfold bMu0 bMu at e
  split at e
  rotate_left
  · cases e
  rename_i b0 xs0 o0
  dsimp only [aNil] at e
  split at e
  rotate_left
  · cases e
  rename_i b xs o1
  dsimp only [dsOf] at e
  split at e
  · cases e
  rename_i ys z e3
  cases e
  obtain ⟨p, vs, h1, h2, h3, h4, h5, h6⟩ := R.own i b xs o1
  refine ⟨.ref p, h1, .inl ⟨rfl, vs, SqL.of h2⟩, ?_⟩
  refine hg G H p vs [] xs [] ys z R.gh h2 h3 h5 rfl e3 Q fun ws v hw hv => ?_
  exact k v G _ (Same.refl G) (R.wr o1 h1 hw) hv
def sPut (i : Nat) (fk fe : Ex) : Sx := fun ρ => match bFz fe ρ with
  | some (.d x, ρ1) => match ρ1[i]? with
    | some (some (.own _ _)) => match fk ρ1 with
      | some (.d (.int k), ρ2) => match ρ2[i]? with
        | some (some (.own b xs)) => match ixN xs.length k with
          | some j => some (.nx, ρ2.set i (some (.own b (xs.set j x))))
          | none => none
        | _ => none
      | _ => none
    | _ => none
  | _ => none
theorem read_put {K : PySem.W.Frag} {i : Nat} {fk fe : Ex} {D : Ends} {σ : Sg} {H : Hp} (h : tS K (sPut i fk fe) D σ H) : tAsg (tE K (bFz fe)) (gSub (tVar i) (tE K fk) rSetL) D σ H := by
  obtain ⟨F, G, ρ, fl, ρ', R, q, kk⟩ := h
  unfold sPut at q
  split at q
  rotate_left
  · cases q
  rename_i x ρ1 e1
  split at q
  rotate_left
  · cases q
  rename_i b0 xs0 o0
  split at q
  rotate_left
  · cases q
  rename_i k ρ2 e2
  split at q
  rotate_left
  · cases q
  rename_i b xs o1
  split at q
  rotate_left
  · cases q
  rename_i j e3
  cases q
  refine ⟨F, G, ρ, _, ρ1, R, e1, fun v G1 H1 s1 R1 q1 => ?_⟩
  obtain ⟨p, vs0, h1, h2, h3, h4, h5, h6⟩ := R1.own i b0 xs0 o0
  refine ⟨.ref p, h1, F, G1, ρ1, _, ρ2, R1, e2, fun w G2 H2 s2 R2 q2 => ?_⟩
  obtain ⟨p', vs, g1, g2, g3, g4, g5, g6⟩ := R2.own i b xs o1
  have ep : p' = p := by cases g1.inj h1; rfl
  subst ep
  have q1 : RD K G1 x v := q1
  cases (show w = .int k from q2)
  refine ⟨p', vs, k, j, rfl, rfl, g2, by rw [g5.length]; exact e3, ?_⟩
  exact kk σ G2 _ (s1.trans s2) (R2.wr o1 g1 (RDs.set (RD.mono s2 _ _ q1) j g5))
end
abbrev Bx := D → Sl → Option Sl
abbrev Ix := Sl → Option (List D × Sl)
def forGo (bind : Bx) (body : Sx) : List D → Sl → Option (Fl × Sl)
  | [], ρ => some (.nx, ρ)
  | x :: xs, ρ => match bind x ρ with
    | none => none
    | some ρ1 => match body ρ1 with
      | none => none
      | some (.nx, ρ2) => forGo bind body xs ρ2
      | some (.ct, ρ2) => forGo bind body xs ρ2
      | some (.bk, ρ2) => some (.nx, ρ2)
      | some (.rt r, ρ2) => some (.rt r, ρ2)
def sFor (it : Ix) (bind : Bx) (body : Sx) : Sx := fun ρ => match it ρ with
  | none => none
  | some (xs, ρ1) => forGo bind body xs ρ1
def whileN (c : Tx) (body : Sx) : Nat → Sl → Option (Fl × Sl)
  | 0, _ => none
  | n + 1, ρ => match c ρ with
    | none => none
    | some (b, ρ1) => if b then match body ρ1 with
      | none => none
      | some (.nx, ρ2) => whileN c body n ρ2
      | some (.ct, ρ2) => whileN c body n ρ2
      | some (.bk, ρ2) => some (.nx, ρ2)
      | some (.rt r, ρ2) => some (.rt r, ρ2)
      else some (.nx, ρ1)
def sWhile (n : Nat) (c : Tx) (body : Sx) : Sx := whileN c body n
def GD (K : PySem.W.Frag) (g : TG) (bind : Bx) (is : List Nat) : Prop := ∀ (F : Fm) (G H : Hp) (σ : Sg) (ρ ρ' : Sl) (x : D) (v : V) (Q : St → Hp → Prop), Rep K F G H σ ρ → RD K G x v → bind x ρ = some ρ' →
  (∀ σ', Rep K F G H σ' ρ' → (∀ vs, (∀ i ∈ is, i ∈ vs) → wipe σ' vs = wipe σ vs) → Q σ' H) → g v σ H Q
theorem wipe_get (σ : Sg) (vs : List Nat) (j : Nat) : (wipe σ vs)[j]? = if j ∈ vs ∧ j < σ.length then some none else σ[j]? := by
  induction vs with
  | nil => simp [wipe]
  | cons v vs ih =>
    unfold wipe
    by_cases hv : v = j
    · subst hv
      by_cases hl : v < σ.length
      · rw [List.getElem?_set_self (by rw [wipe_length]; exact hl)]; simp [hl]
      · rw [List.getElem?_eq_none (by rw [List.length_set, wipe_length]; omega)]
        rw [if_neg (fun z => hl z.2), List.getElem?_eq_none (by omega)]
    · rw [List.getElem?_set_ne hv, ih]
      simp only [List.mem_cons, Ne.symm hv, false_or]
theorem wipe_set {σ : Sg} {vs : List Nat} {i : Nat} {o : Option V} (h : i ∈ vs) : wipe (σ.set i o) vs = wipe σ vs := by
  refine List.ext_getElem? fun j => ?_
  rw [wipe_get, wipe_get, List.length_set]
  by_cases hj : j ∈ vs ∧ j < σ.length
  · rw [if_pos hj, if_pos hj]
  · rw [if_neg hj, if_neg hj]
    by_cases e : i = j
    · subst e
      have hl : ¬ i < σ.length := fun z => hj ⟨h, z⟩
      rw [List.getElem?_eq_none (by rw [List.length_set]; omega), List.getElem?_eq_none (by omega)]
    · rw [List.getElem?_set_ne e]
theorem wipe_wipe {σ : Sg} {vs us : List Nat} (h : ∀ i ∈ us, i ∈ vs) : wipe (wipe σ us) vs = wipe σ vs := by
  refine List.ext_getElem? fun j => ?_
  rw [wipe_get, wipe_get, wipe_get, wipe_length]
  by_cases hj : j ∈ vs ∧ j < σ.length
  · rw [if_pos hj, if_pos hj]
  · rw [if_neg hj, if_neg hj]
    by_cases e : j ∈ us ∧ j < σ.length
    · exact absurd ⟨h j e.1, e.2⟩ hj
    · rw [if_neg e]
def bName (i : Nat) : Bx := fun x ρ => some (ρ.set i (some (.d x)))
def bNames : List Nat → List D → Sl → Option Sl
  | [], [], ρ => some ρ
  | i :: is, x :: xs, ρ => bNames is xs (ρ.set i (some (.d x)))
  | _, _, _ => none
def bTup (is : List Nat) : Bx := fun x ρ => match x with
  | .tup xs => bNames is xs ρ
  | _ => none
def gNames : List Nat → TGs
  | [] => gNil
  | i :: is => gCons (gName i) (gNames is)
theorem gd_name {K : PySem.W.Frag} {i : Nat} : GD K (gName i) (bName i) [i] := fun F G H σ ρ ρ' x v Q R h e k => by
  cases e
  exact k _ (R.setD h) fun vs hv => wipe_set (hv i (List.mem_singleton_self i))
theorem gd_names {K : PySem.W.Frag} {F : Fm} {G H : Hp} : ∀ (is : List Nat) (σ : Sg) (ρ ρ' : Sl) (xs : List D) (vs : List V) (Q : St → Hp → Prop), Rep K F G H σ ρ → RDs K G xs vs → bNames is xs ρ = some ρ' → (∀ σ', Rep K F G H σ' ρ' → (∀ vs, (∀ i ∈ is, i ∈ vs) → wipe σ' vs = wipe σ vs) → Q σ' H) → gNames is vs σ H Q
  | [], σ, ρ, ρ', [], vs, Q, R, h, e, k => by cases e; exact ⟨h, k σ R fun _ _ => rfl⟩
  | [], σ, ρ, ρ', x :: xs, vs, Q, R, h, e, k => by cases e
  | i :: is, σ, ρ, ρ', [], vs, Q, R, h, e, k => by cases e
  | i :: is, σ, ρ, ρ', x :: xs, vs, Q, R, ⟨v, us, e1, e2, e3⟩, e, k =>
    ⟨v, us, e1, gd_names is (σ.set i (some v)) _ ρ' xs us Q (R.setD e2) e3 e fun σ' R' hw => k σ' R' fun ws hi => (hw ws fun j hj => hi j (List.mem_cons_of_mem _ hj)).trans (wipe_set (hi i List.mem_cons_self))⟩
theorem gd_tup {K : PySem.W.Frag} {n : Nat} {is : List Nat} (hn : is.length = n) : GD K (gTup K n (gNames is)) (bTup is) is := fun F G H σ ρ ρ' x v Q R h e k => by
  unfold bTup at e
  split at e
  · rename_i xs
    obtain ⟨a, vs, e1, e2, e3⟩ := h
    refine ⟨a, vs, e1, sameT R.gh e2, ?_, gd_names is σ ρ ρ' xs vs Q R e3 e k⟩
    rw [e3.length]
    have : ∀ (is : List Nat) (xs : List D) (ρ ρ' : Sl), bNames is xs ρ = some ρ' → xs.length = is.length := by
      intro is
      induction is with
      | nil => intro xs ρ ρ' e; cases xs with
        | nil => rfl
        | cons x xs => cases e
      | cons i is ih => intro xs ρ ρ' e; cases xs with
        | nil => cases e
        | cons x xs => simp [ih xs _ _ e]
    rw [this is xs ρ ρ' e, hn]
  · cases e
def JOk (K : PySem.W.Frag) (J : It) (G : Hp) (xs : List D) : Prop := ∀ (H : Hp) (i : Nat), Same G H → (i < xs.length → J.go i H) ∧ (xs.length ≤ i → J.stop i H) ∧ ∀ v H' x, J.yld i H v H' → xs[i]? = some x → RZ K G H (.d x) v H'
def ItD (K : PySem.W.Frag) (wi : TI) (it : Ix) : Prop := ∀ (σ : Sg) (H : Hp) (R : It → Hp → Prop),
  (∃ F G ρ xs ρ', Rep K F G H σ ρ ∧ it ρ = some (xs, ρ') ∧ ∀ J H1 G1, Same G G1 → Rep K F G1 H1 σ ρ' → JOk K J G1 xs → R J H1) → wi σ H R
def tIt (K : PySem.W.Frag) (it : Ix) : TI := fun σ H R => ∃ F G ρ xs ρ', Rep K F G H σ ρ ∧ it ρ = some (xs, ρ') ∧ ∀ J H1 G1, Same G G1 → Rep K F G1 H1 σ ρ' → JOk K J G1 xs → R J H1
def tG (K : PySem.W.Frag) (bind : Bx) (is : List Nat) : TG := fun v σ H Q => ∃ F G ρ x ρ', Rep K F G H σ ρ ∧ RD K G x v ∧ bind x ρ = some ρ' ∧ ∀ σ', Rep K F G H σ' ρ' → (∀ vs, (∀ i ∈ is, i ∈ vs) → wipe σ' vs = wipe σ vs) → Q σ' H
theorem itd_self {K : PySem.W.Frag} {it : Ix} : ItD K (tIt K it) it := fun σ H R h => h
theorem gd_self {K : PySem.W.Frag} {bind : Bx} {is : List Nat} : GD K (tG K bind is) bind is := fun F G H σ ρ ρ' x v Q R h e k => ⟨F, G, ρ, x, ρ', R, h, e, k⟩
def PIv (X : Cx) (tg iter : Expr) (it : Ix) : Prop := PI X tg iter (tIt X.K it)
def PGv (X : Cx) (tg : Expr) (bind : Bx) (is : List Nat) : Prop := PG X tg (tG X.K bind is)
theorem iv_of {X : Cx} {tg iter : Expr} {wi : TI} {it : Ix} (h : PI X tg iter wi) (d : ItD X.K wi it) : PIv X tg iter it := ⟨fun pins s σ H R I q => h.run pins s σ H R I (d σ H R q)⟩
theorem gv_of {X : Cx} {tg : Expr} {g : TG} {bind : Bx} {is : List Nat} (h : PG X tg g) (d : GD X.K g bind is) : PGv X tg bind is :=
  ⟨fun pins s σ H v u Q I r ⟨F, G, ρ, x, ρ', R, hx, e, k⟩ => h.run pins s σ H v u Q I r (d F G H σ ρ ρ' x v Q R hx e k)⟩
theorem drop_of {α : Type} {xs : List α} {i : Nat} (h : i < xs.length) : ∃ x, xs[i]? = some x ∧ xs.drop i = x :: xs.drop (i + 1) :=
  ⟨xs[i], by simp [h], List.drop_eq_getElem_cons h⟩
theorem read_for {K : PySem.W.Frag} {wi : TI} {g : TG} {it : Ix} {bind : Bx} {body : Sx} {is : List Nat} (hi : ItD K wi it) (hg : GD K g bind is) {D : Ends} {σ : Sg} {H : Hp} (h : tS K (sFor it bind body) D σ H) : tFor wi g (tS K body) D σ H := by
  obtain ⟨F, G, ρ, fl, ρ', R, q, k⟩ := h
  unfold sFor at q
  split at q
  · cases q
  rename_i xs ρ1 e1
  refine hi σ H _ ⟨F, G, ρ, xs, ρ1, R, e1, fun J H1 G1 s1 R1 hj => ?_⟩
  refine ⟨fun i m σ' H' => m = xs.length - i ∧ i ≤ xs.length ∧ ∃ G2 ρ2, Same G1 G2 ∧ Rep K F G2 H' σ' ρ2 ∧ forGo bind body (xs.drop i) ρ2 = some (fl, ρ'), ⟨xs.length, rfl, Nat.zero_le _, G1, ρ1, Same.refl _, R1, q⟩, ?_⟩
  rintro i m σ' H' ⟨rfl, hi, G2, ρ2, s2, R2, e2⟩
  obtain ⟨j1, j2, j3⟩ := hj H' i (s2.trans R2.gh)
  by_cases hlt : i < xs.length
  · refine .inr ⟨j1 hlt, _, fun σ3 H3 w => ⟨xs.length - (i + 1), by omega, w⟩, fun v H3 y => ?_⟩
    obtain ⟨x, hx, hd⟩ := drop_of hlt
    have z := (j3 v H3 x y hx).mono s2
    obtain ⟨G3, s3, R3, q3⟩ := rz_done R2 z
    rw [hd] at e2
    unfold forGo at e2
    split at e2
    · cases e2
    rename_i ρ3 e3
    refine hg F G3 H3 σ' ρ2 ρ3 x v _ R3 q3 e3 fun σ4 R4 _ => ?_
    split at e2
    · cases e2
    · rename_i ρ4 e4
      exact ⟨F, G3, ρ3, .nx, ρ4, R4, e4, fun σ5 G5 H5 s5 R5 => ⟨rfl, hlt, G5, ρ4, (s2.trans s3).trans s5, R5, e2⟩⟩
    · rename_i ρ4 e4
      exact ⟨F, G3, ρ3, .ct, ρ4, R4, e4, fun σ5 G5 H5 s5 R5 => ⟨rfl, hlt, G5, ρ4, (s2.trans s3).trans s5, R5, e2⟩⟩
    · rename_i ρ4 e4
      cases e2
      exact ⟨F, G3, ρ3, .bk, _, R4, e4, fun σ5 G5 H5 s5 R5 => k σ5 G5 H5 (((s1.trans s2).trans s3).trans s5) R5⟩
    · rename_i r ρ4 e4
      cases e2
      exact ⟨F, G3, ρ3, .rt r, _, R4, e4, fun σ5 G5 H5 s5 R5 => k σ5 G5 H5 (((s1.trans s2).trans s3).trans s5) R5⟩
  · refine .inl ⟨j2 (by omega), ?_⟩
    rw [List.drop_eq_nil_of_le (by omega)] at e2
    cases e2
    exact k σ' G2 H' (s1.trans s2) R2
theorem read_while {K : PySem.W.Frag} {n : Nat} {c : Tx} {body : Sx} {D : Ends} {σ : Sg} {H : Hp} (h : tS K (sWhile n c body) D σ H) : tWhile (tT K c) (tS K body) D σ H := by
  obtain ⟨F, G, ρ, fl, ρ', R, q, k⟩ := h
  unfold sWhile at q
  refine ⟨fun m σ' H' => ∃ G2 ρ2, Same G G2 ∧ Rep K F G2 H' σ' ρ2 ∧ whileN c body m ρ2 = some (fl, ρ'), ⟨n, G, ρ, Same.refl _, R, q⟩, ?_⟩
  rintro m σ' H' ⟨G2, ρ2, s2, R2, e2⟩
  cases m with
  | zero => cases e2
  | succ m =>
    unfold whileN at e2
    split at e2
    · cases e2
    rename_i b ρ3 e3
    refine ⟨F, G2, ρ2, b, ρ3, R2, e3, fun G3 H3 s3 R3 => ?_⟩
    cases b with
    | false =>
      cases e2
      exact iteF (k σ' G3 H3 (s2.trans s3) R3)
    | true =>
      refine iteT ⟨_, fun σ5 H5 w => ⟨m, Nat.lt_succ_self m, w⟩, ?_⟩
      rw [if_pos rfl] at e2
      split at e2
      · cases e2
      · rename_i ρ4 e4
        exact ⟨F, G3, ρ3, .nx, ρ4, R3, e4, fun σ5 G5 H5 s5 R5 => ⟨G5, ρ4, (s2.trans s3).trans s5, R5, e2⟩⟩
      · rename_i ρ4 e4
        exact ⟨F, G3, ρ3, .ct, ρ4, R3, e4, fun σ5 G5 H5 s5 R5 => ⟨G5, ρ4, (s2.trans s3).trans s5, R5, e2⟩⟩
      · rename_i ρ4 e4
        cases e2
        exact ⟨F, G3, ρ3, .bk, _, R3, e4, fun σ5 G5 H5 s5 R5 => k σ5 G5 H5 ((s2.trans s3).trans s5) R5⟩
      · rename_i r ρ4 e4
        cases e2
        exact ⟨F, G3, ρ3, .rt r, _, R3, e4, fun σ5 G5 H5 s5 R5 => k σ5 G5 H5 ((s2.trans s3).trans s5) R5⟩
section
variable {X : Cx} {e : Expr} {body : List Stmt} {fa : Ex} {f : Sx} {c : Tx} {pos : Pos}
theorem sv_for {tg iter : Expr} {it : Ix} {bind : Bx} {is : List Nat} (hp : PassesOwn (model X.prog X.w) X.A X.env X.xe) (hc : X.calm = true) (hi : PIv X tg iter it) (hg : PGv X tg bind is) (hb : PBv X body f)
    (hs : ∀ x, foldedSetIterable iter X.env x = pure x := by intro _; rfl) : PSv X (.For tg iter body [] pos) (sFor it bind f) := by
  exact PS.imp (ps_for hp hc hi hg hb hs) fun D σ H h => read_for itd_self gd_self h
theorem sv_while {n : Nat} (hp : PassesOwn (model X.prog X.w) X.A X.env X.xe) (hc : PTv X e c) (hb : PBv X body f) : PSv X (.While e body [] pos) (sWhile n c f) := PS.imp (ps_while hp hc hb) fun D σ H h => read_while h
def iRange1 (f : Ex) : Ix := fun ρ => match f ρ with
  | some (.d (.int j), ρ1) => if -(2 ^ 62) ≤ j ∧ j < 2 ^ 62 then some ((List.range j.toNat).map fun k : Nat => D.int (k : Int), ρ1) else none
  | _ => none
def iRange2 (f g : Ex) : Ix := fun ρ => match f ρ with
  | some (.d (.int i), ρ1) => match g ρ1 with
    | some (.d (.int j), ρ2) => if -(2 ^ 62) ≤ i ∧ i < 2 ^ 62 ∧ -(2 ^ 62) ≤ j ∧ j < 2 ^ 62 then some ((List.range (j - i).toNat).map fun k : Nat => D.int (i + (k : Int)), ρ2) else none
    | _ => none
  | _ => none
theorem jok_range {K : PySem.W.Frag} {lo : Int} {n : Nat} {G : Hp} : JOk K (Itr lo n) G ((List.range n).map fun k : Nat => D.int (lo + (k : Int))) := fun H i s => by
  refine ⟨fun h => by
    have h : i < n := by simpa using h
    exact h, fun h => by
    have h : n ≤ i := by simpa using h
    exact h, fun v H' x y e => ?_⟩
  obtain ⟨rfl, rfl⟩ := y
  simp only [List.getElem?_map] at e
  rw [List.getElem?_range (by
    by_cases h : i < n
    · exact h
    · rw [List.getElem?_eq_none (by simpa using h)] at e; cases e)] at e
  cases e
  exact .same rfl
theorem iv_range1 {p pos : Pos} {tg a : Expr} {f : Ex} (hg : Gl X "range") (hm : X.mg "range" = none) (h : PEv X a f) (hst : starEach [a] X.env = (false, eval a X.env) :: starEach [] X.env := by rfl) :
    PIv X tg (.Call (.Name "range" p) [a] [] pos) (iRange1 f) := by
  refine iv_of (pi_range1 hg hm (pa_cons h pa_nil hst) hst) fun σ H R h => ?_
  obtain ⟨F, G, ρ, xs, ρ', R0, e, k⟩ := h
  unfold iRange1 at e
  split at e
  · rename_i j ρ1 e1
    split at e
    · rename_i hb
      cases e
      refine ⟨F, G, ρ, _, _, R0, e1, fun v G1 H1 s1 R1 q1 => ⟨j, by cases (show v = .int j from q1); rfl, hb.1, hb.2, ?_⟩⟩
      refine k _ H1 G1 s1 R1 ?_
      have z := jok_range (K := X.K) (lo := 0) (n := j.toNat) (G := G1)
      simpa using z
    · cases e
  · cases e
theorem iv_range2 {p pos : Pos} {tg a b : Expr} {f g : Ex} (hg : Gl X "range") (hm : X.mg "range" = none) (h : PEv X a f) (h2 : PEv X b g) (hst : starEach [a, b] X.env = [(false, eval a X.env), (false, eval b X.env)] := by rfl) (hst2 : starEach [b] X.env = [(false, eval b X.env)] := by rfl) :
    PIv X tg (.Call (.Name "range" p) [a, b] [] pos) (iRange2 f g) := by
  refine iv_of (pi_range2 hg hm (pa_cons h (pa_cons h2 pa_nil hst2) (by rw [hst, hst2])) hst hst2) fun σ H R h => ?_
  obtain ⟨F, G, ρ, xs, ρ', R0, e, k⟩ := h
  unfold iRange2 at e
  split at e
  rotate_left
  · cases e
  rename_i i ρ1 e1
  split at e
  rotate_left
  · cases e
  rename_i j ρ2 e2
  split at e
  · rename_i hb
    cases e
    refine ⟨F, G, ρ, _, ρ1, R0, e1, fun v G1 H1 s1 R1 q1 => ⟨F, G1, ρ1, _, _, R1, e2, fun w G2 H2 s2 R2 q2 => ⟨i, j, by cases (show v = .int i from q1); cases (show w = .int j from q2); rfl, hb, ?_⟩⟩⟩
    exact k _ H2 G2 (s1.trans s2) R2 jok_range
  · cases e
def iLst (f : Ex) : Ix := fun ρ => match bFz f ρ with
  | some (.d (.lst xs), ρ1) => some (xs, ρ1)
  | _ => none
def iTpl (f : Ex) : Ix := fun ρ => match f ρ with
  | some (.d (.tup xs), ρ1) => some (xs, ρ1)
  | _ => none
def iTxt (f : Ex) : Ix := fun ρ => match f ρ with
  | some (.d (.str s), ρ1) => some (s.map fun c => D.str [c], ρ1)
  | _ => none
theorem rds_walk {K : PySem.W.Frag} {G : Hp} {xs : List D} {vs : List V} (h : RDs K G xs vs) {i : Nat} {v : V} {x : D} (h1 : vs[i]? = some v) (h2 : xs[i]? = some x) : RD K G x v := by
  obtain ⟨u, e1, e2⟩ := h.get h2
  rw [h1] at e1; cases e1; exact e2
theorem iv_list {tg a : Expr} {f : Ex} (h : PEv X a f) : PIv X tg a (iLst f) := by
  refine iv_of (pi_list (ev_fz h)) fun σ H R h => ?_
  obtain ⟨F, G, ρ, xs, ρ', R0, e, k⟩ := h
  unfold iLst at e
  split at e
  rotate_left
  · cases e
  rename_i ys ρ1 e1
  cases e
  refine ⟨F, G, ρ, _, _, R0, e1, fun v G1 H1 s1 R1 q1 => ?_⟩
  obtain ⟨p, vs, rfl, h2, h3⟩ := q1
  refine ⟨p, rfl, ⟨vs, SqL.of (R1.gh _ _ h2)⟩, k _ H1 G1 s1 R1 fun H2 i s2 => ?_⟩
  have hl : SqL X.K H2 p vs := SqL.of (s2 _ _ h2)
  refine ⟨fun hi => ⟨vs, vs[i]'(by rw [h3.length]; exact hi), hl, by simp⟩, fun hi => ⟨vs, hl, by rw [h3.length]; exact hi⟩, fun w H' x y ex => ?_⟩
  obtain ⟨rfl, hw⟩ := y
  exact .same (rds_walk h3 (hw vs hl) ex)
theorem iv_tup {tg a : Expr} {f : Ex} (h : PEv X a f) : PIv X tg a (iTpl f) := by
  refine iv_of (pi_tup h) fun σ H R h => ?_
  obtain ⟨F, G, ρ, xs, ρ', R0, e, k⟩ := h
  unfold iTpl at e
  split at e
  rotate_left
  · cases e
  rename_i ys ρ1 e1
  cases e
  refine ⟨F, G, ρ, _, _, R0, e1, fun v G1 H1 s1 R1 q1 => ?_⟩
  obtain ⟨p, vs, rfl, h2, h3⟩ := q1
  refine ⟨p, rfl, ⟨vs, sameT R1.gh h2⟩, k _ H1 G1 s1 R1 fun H2 i s2 => ?_⟩
  have hl : SqT X.K H2 p vs := sameT s2 h2
  refine ⟨fun hi => ⟨vs, vs[i]'(by rw [h3.length]; exact hi), hl, by simp⟩, fun hi => ⟨vs, hl, by rw [h3.length]; exact hi⟩, fun w H' x y ex => ?_⟩
  obtain ⟨rfl, hw⟩ := y
  exact .same (rds_walk h3 (hw vs hl) ex)
theorem iv_txt {tg a : Expr} {f : Ex} (h : PEv X a f) : PIv X tg a (iTxt f) := by
  refine iv_of (pi_str h) fun σ H R h => ?_
  obtain ⟨F, G, ρ, xs, ρ', R0, e, k⟩ := h
  unfold iTxt at e
  split at e
  rotate_left
  · cases e
  rename_i s ρ1 e1
  cases e
  refine ⟨F, G, ρ, _, _, R0, e1, fun v G1 H1 s1 R1 q1 => ⟨⟨s.toArray⟩, q1, k _ H1 G1 s1 R1 fun H2 i s2 => ?_⟩⟩
  refine ⟨fun hi => by
    have hi : i < s.length := by simpa using hi
    exact (by simpa using hi : i < s.toArray.size), fun hi => by
    have hi : s.length ≤ i := by simpa using hi
    exact (by simpa using hi : s.toArray.size ≤ i), fun w H' x y ex => ?_⟩
  obtain ⟨rfl, c, hc, rfl⟩ := y
  have hc : s[i]? = some c := by simpa using hc
  rw [List.getElem?_map, hc] at ex
  cases ex
  exact .same rfl
end
end M
namespace M
open PySem L2
def wipeS (ρ : Sl) : List Nat → Sl
  | [] => ρ
  | v :: vs => (wipeS ρ vs).set v none
def restS (ρ1 ρ2 : Sl) : List Nat → Sl
  | [] => ρ2
  | v :: vs => (restS ρ1 ρ2 vs).set v (ρ1.getD v none)
def noOwn (ρ : Sl) (vs : List Nat) : Bool := vs.all fun j => match ρ[j]? with
  | some (some (.own _ _)) => false
  | _ => true
theorem Rep.wipe {K : PySem.W.Frag} {F : Fm} {G H : Hp} {σ : Sg} {ρ : Sl} (R : Rep K F G H σ ρ) : ∀ vs : List Nat, Rep K F G H (L2.wipe σ vs) (wipeS ρ vs)
  | [] => R
  | v :: vs => (Rep.wipe R vs).clear
theorem restS_at {ρ1 ρ2 : Sl} {i : Nat} {x : SV} : ∀ {vs : List Nat}, At (restS ρ1 ρ2 vs) i x → (i ∈ vs ∧ At ρ1 i x) ∨ (i ∉ vs ∧ At ρ2 i x)
  | [], h => .inr ⟨by simp, h⟩
  | v :: vs, h => by
    unfold restS at h
    rcases h.of_set with ⟨rfl, e, _⟩ | ⟨hv, h⟩
    · refine .inl ⟨List.mem_cons_self, ?_⟩
      unfold At
      unfold List.getD at e
      cases q : ρ1[v]? with
      | none => rw [q] at e; cases e
      | some o => rw [q] at e; cases e; rfl
    · rcases restS_at h with ⟨h1, h2⟩ | ⟨h1, h2⟩
      · exact .inl ⟨List.mem_cons_of_mem _ h1, h2⟩
      · exact .inr ⟨by simp [h1, Ne.symm hv], h2⟩
theorem restS_len {ρ1 ρ2 : Sl} : ∀ {vs : List Nat}, (restS ρ1 ρ2 vs).length = ρ2.length
  | [] => rfl
  | v :: vs => by unfold restS; rw [List.length_set, restS_len]
theorem wipe_at {σ : Sg} {vs : List Nat} {i : Nat} {v : V} (h : vAt (L2.wipe σ vs) i v) : vAt σ i v ∧ i ∉ vs := wipe_some h
theorem at_wipe {σ : Sg} {vs : List Nat} {i : Nat} {v : V} (h : vAt σ i v) (hi : i ∉ vs) : vAt (L2.wipe σ vs) i v := by
  unfold vAt At at *; rw [wipe_out hi]; exact h
theorem Rep.rest {K : PySem.W.Frag} {F : Fm} {G1 H1 G2 H2 : Hp} {σ : Sg} {ρ1 ρ2 : Sl} {vs : List Nat} (R1 : Rep K F G1 H1 σ ρ1) (R2 : Rep K F G2 H2 (L2.wipe σ vs) ρ2) (s : Same G1 G2) (hn : noOwn ρ1 vs = true) : Rep K F G2 H2 σ (restS ρ1 ρ2 vs) where
  gh := R2.gh
  fh := R2.fh
  fg := R2.fg
  len := by rw [restS_len, R2.len, wipe_length]
  dat := fun i x e => by
    rcases restS_at e with ⟨h1, h2⟩ | ⟨h1, h2⟩
    · obtain ⟨v, g1, g2⟩ := R1.dat i x h2
      exact ⟨v, g1, RD.mono s _ _ g2⟩
    · obtain ⟨v, g1, g2⟩ := R2.dat i x h2
      exact ⟨v, (wipe_at g1).1, g2⟩
  own := fun i b xs e => by
    rcases restS_at e with ⟨h1, h2⟩ | ⟨h1, h2⟩
    · unfold noOwn at hn
      rw [List.all_eq_true] at hn
      have := hn i h1
      unfold At at h2
      rw [h2] at this
      cases this
    · obtain ⟨p, vs, g1, g2⟩ := R2.own i b xs h2
      exact ⟨p, vs, (wipe_at g1).1, g2⟩
  sep := fun i j p b c xs ys hij e1 e2 e3 e4 => by
    have key : ∀ {i : Nat} {b : Bool} {xs : List D}, oAt (restS ρ1 ρ2 vs) i b xs → i ∉ vs ∧ oAt ρ2 i b xs := fun {i b xs} e => by
      rcases restS_at e with ⟨h1, h2⟩ | h
      · unfold noOwn at hn
        rw [List.all_eq_true] at hn
        have := hn i h1
        unfold At at h2
        rw [h2] at this
        cases this
      · exact h
    obtain ⟨n1, o1⟩ := key e1
    obtain ⟨n2, o2⟩ := key e2
    exact R2.sep i j p b c xs ys hij o1 o2 (at_wipe e3 n1) (at_wipe e4 n2)
theorem Rep.poke {K : PySem.W.Frag} {F : Fm} {G H : Hp} {σ : Sg} {ρ : Sl} {p : Addr} {o : HO} (R : Rep K F G H σ ρ) (gp : G p = none) (fp : F.hp p = none) (ns : ∀ i b ys, oAt ρ i b ys → ¬ vAt σ i (.ref p)) : Rep K F G (upd H p o) σ ρ where
  gh := fun b u e => by rw [upd_ne (ne_of_none e gp)]; exact R.gh b u e
  fh := fun b u e => by rw [upd_ne (ne_of_none e fp)]; exact R.fh b u e
  fg := R.fg
  len := R.len
  dat := R.dat
  own := fun i b xs e => by
    obtain ⟨q, vs, h1, h2, h3⟩ := R.own i b xs e
    have hq : q ≠ p := fun z => ns i b xs e (z ▸ h1)
    exact ⟨q, vs, h1, by rw [upd_ne hq]; exact h2, h3⟩
  sep := R.sep
def compGo (vs : List Nat) (bind : Bx) (cond : Tx) (elt : Ex) : List D → List D → Sl → Option (List D × Sl)
  | [], acc, ρ => some (acc, ρ)
  | x :: xs, acc, ρ => match bind x ρ with
    | none => none
    | some ρ1 => match cond ρ1 with
      | none => none
      | some (b, ρ2) => if b then match bFz elt ρ2 with
          | some (.d y, ρ3) => if acc.length < 16777216 then compGo vs bind cond elt xs (acc ++ [y]) (wipeS ρ3 vs) else none
          | _ => none
        else compGo vs bind cond elt xs acc (wipeS ρ2 vs)
def bComp (it : Ix) (vs : List Nat) (bind : Bx) (cond : Tx) (elt : Ex) : Ex := fun ρ => match it ρ with
  | none => none
  | some (xs, ρ1) => if noOwn ρ1 vs then match compGo vs bind cond elt xs [] (wipeS ρ1 vs) with
      | none => none
      | some (ys, ρ2) => some (.own ys, restS ρ1 ρ2 vs)
    else none
def bYes : Tx := fun ρ => some (true, ρ)
theorem sizeLine_num : sizeLine = 16777216 := by decide
structure Acc (K : PySem.W.Frag) (F : Fm) (G H : Hp) (σ : Sg) (ρ : Sl) (P : Addr) (acc : List D) (av : List V) : Prop where
  rep : Rep K F G H σ ρ
  hp : H P = some (.lst av)
  gp : G P = none
  fp : F.hp P = none
  ns : ∀ i b ys, oAt ρ i b ys → ¬ vAt σ i (.ref P)
  rds : RDs K G acc av
theorem Acc.lend {K : PySem.W.Frag} {F : Fm} {G H : Hp} {σ : Sg} {ρ : Sl} {P : Addr} {acc : List D} {av : List V} (a : Acc K F G H σ ρ P acc av) : Rep K ⟨upd F.hp P (.lst av), F.par⟩ G H σ ρ := a.rep.lend a.hp a.gp a.ns
theorem Acc.of {K : PySem.W.Frag} {F : Fm} {G H G0 : Hp} {σ : Sg} {ρ : Sl} {P : Addr} {acc : List D} {av : List V} (R : Rep K ⟨upd F.hp P (.lst av), F.par⟩ G H σ ρ) (fp : F.hp P = none) (r : RDs K G0 acc av) (s : Same G0 G) : Acc K F G H σ ρ P acc av := by
  obtain ⟨R', h1, h2, h3⟩ := R.back fp
  exact ⟨R', h1, h2, fp, h3, RDs.mono s _ _ r⟩
theorem Acc.push {K : PySem.W.Frag} {F : Fm} {G H : Hp} {σ : Sg} {ρ : Sl} {P : Addr} {acc : List D} {av : List V} {y : D} {v : V} (a : Acc K F G H σ ρ P acc av) (h : RD K G y v) : Acc K F G (upd H P (.lst (av ++ [v]))) σ ρ P (acc ++ [y]) (av ++ [v]) :=
  ⟨a.rep.poke a.gp a.fp a.ns, upd_same, a.gp, a.fp, a.ns, a.rds.append (RDs.one h)⟩
theorem Acc.wipe {K : PySem.W.Frag} {F : Fm} {G H : Hp} {σ : Sg} {ρ : Sl} {P : Addr} {acc : List D} {av : List V} (a : Acc K F G H σ ρ P acc av) (vs : List Nat) : Acc K F G H (L2.wipe σ vs) (wipeS ρ vs) P acc av := by
  refine ⟨a.rep.wipe vs, a.hp, a.gp, a.fp, fun i b ys h1 h2 => ?_, a.rds⟩
  have key : ∀ {vs : List Nat} {x : SV}, At (wipeS ρ vs) i x → At ρ i x := by
    intro vs
    induction vs with
    | nil => intro x h; exact h
    | cons v vs ih =>
      intro x h
      unfold wipeS at h
      rcases h.of_set with ⟨_, z, _⟩ | ⟨_, h⟩
      · cases z
      · exact ih h
  exact a.ns i b ys (key h1) (wipe_at h2).1
theorem comp_elt {K : PySem.W.Frag} {F : Fm} {G H : Hp} {σ σ0 : Sg} {ρ : Sl} {P : Addr} {acc : List D} {av : List V} {vs : List Nat} {bind : Bx} {cond : Tx} {elt : Ex} {xs : List D} {out : List D × Sl} {Nx : Hp → Prop}
    (a : Acc K F G H σ ρ P acc av) (hw : L2.wipe σ vs = L2.wipe σ0 vs)
    (e : (match bFz elt ρ with
          | some (.d y, ρ3) => if acc.length < 16777216 then compGo vs bind cond elt xs (acc ++ [y]) (wipeS ρ3 vs) else none
          | _ => none) = some out)
    (hk : ∀ G' H' ρ' acc' av', Same G G' → Acc K F G' H' (L2.wipe σ0 vs) ρ' P acc' av' → compGo vs bind cond elt xs acc' ρ' = some out → Nx H') :
    tE K (bFz elt) σ H fun y H4 => ∃ ac, H4 P = some (.lst ac) ∧ ac.length < sizeLine ∧ Nx (upd H4 P (.lst (ac ++ [y]))) := by
  split at e
  rotate_left
  · cases e
  rename_i y ρ3 e1
  split at e
  rotate_left
  · cases e
  rename_i hl
  refine ⟨_, G, ρ, _, ρ3, a.lend, e1, fun v G1 H1 s1 R1 q1 => ?_⟩
  have a1 := Acc.of R1 a.fp a.rds s1
  refine ⟨av, a1.hp, by rw [sizeLine_num, a.rds.length]; exact hl, ?_⟩
  have a2 := (a1.push (show RD K G1 y v from q1)).wipe vs
  rw [hw] at a2
  exact hk G1 _ _ _ _ s1 a2 e
def CInv (K : PySem.W.Frag) (F : Fm) (G1 : Hp) (σ : Sg) (vs : List Nat) (bind : Bx) (cond : Tx) (elt : Ex) (xs : List D) (P : Addr) (out : List D × Sl) (i m : Nat) (H' : Hp) : Prop :=
  m = xs.length - i ∧ i ≤ xs.length ∧ ∃ G2 ρ2 acc av, Same G1 G2 ∧ Acc K F G2 H' (L2.wipe σ vs) ρ2 P acc av ∧ compGo vs bind cond elt (xs.drop i) acc ρ2 = some out
theorem read_comp {K : PySem.W.Frag} {wi : TI} {g : TG} {it : Ix} {bind : Bx} {cond : Tx} {elt : Ex} {vs is : List Nat} (hi : ItD K wi it) (hg : GD K g bind is) (his : ∀ i ∈ is, i ∈ vs) {σ : Sg} {H : Hp} {Q : VK} (h : tE K (bComp it vs bind cond elt) σ H Q) :
    tLc wi g (tT K cond) (tE K (bFz elt)) vs σ H Q := by
  obtain ⟨F, G, ρ, r, ρ', R, q, k⟩ := h
  unfold bComp at q
  split at q
  · cases q
  rename_i xs ρ1 e1
  split at q
  rotate_left
  · cases q
  rename_i hno
  split at q
  · cases q
  rename_i ys ρ2 e2
  cases q
  refine hi σ H _ ⟨F, G, ρ, xs, ρ1, R, e1, fun J H1 G1 s1 R1 hj => ?_⟩
  intro P hP
  have a0 : Acc K F G1 (upd H1 P (.lst [])) σ ρ1 P [] [] := ⟨R1.new hP, upd_same, R1.gNone hP, R1.fNone hP, R1.oNe hP, rfl⟩
  refine ⟨CInv K F G1 σ vs bind cond elt xs P (ys, ρ2),
    ⟨xs.length, rfl, Nat.zero_le _, G1, _, [], [], Same.refl _, a0.wipe vs, e2⟩, ?_⟩
  rintro i m H' ⟨rfl, hil, G2, ρ3, acc, av, s2, a, e3⟩
  obtain ⟨j1, j2, j3⟩ := hj H' i (s2.trans a.rep.gh)
  by_cases hlt : i < xs.length
  · refine .inr ⟨j1 hlt, CInv K F G1 σ vs bind cond elt xs P (ys, ρ2) (i + 1) (xs.length - (i + 1)), fun H3 w => ⟨xs.length - (i + 1), by omega, w⟩, fun v H3 y => ?_⟩
    obtain ⟨x, hx, hd⟩ := drop_of hlt
    have z := (j3 v H3 x y hx).mono s2
    obtain ⟨G3, s3, R3, q3⟩ := rz_done a.lend z
    rw [hd] at e3
    unfold compGo at e3
    split at e3
    · cases e3
    rename_i ρ4 e4
    refine hg _ G3 H3 _ ρ3 ρ4 x v _ R3 q3 e4 fun σ4 R4 hw => ⟨(hw vs his).trans (wipe_wipe fun _ z => z), ?_⟩
    have hw4 : L2.wipe σ4 vs = L2.wipe σ vs := (hw vs his).trans (wipe_wipe fun _ z => z)
    split at e3
    · cases e3
    rename_i b ρ5 e5
    refine ⟨_, G3, ρ4, b, ρ5, R4, e5, fun G5 H5 s5 R5 => ?_⟩
    have a5 := Acc.of R5 a.fp a.rds (s3.trans s5)
    cases b with
    | true =>
      rw [if_pos rfl] at e3
      refine iteT (comp_elt (bind := bind) (cond := cond) (xs := xs.drop (i + 1)) (out := (ys, ρ2)) (Nx := CInv K F G1 σ vs bind cond elt xs P (ys, ρ2) (i + 1) (xs.length - (i + 1))) a5 hw4 e3 fun G6 H6 ρ6 acc6 av6 s6 a6 e6 => ⟨rfl, hlt, G6, ρ6, acc6, av6, (((s2.trans s3).trans s5).trans s6), a6, e6⟩)
    | false =>
      rw [if_neg (by simp)] at e3
      have a6 := a5.wipe vs
      rw [hw4] at a6
      exact iteF ⟨rfl, hlt, G5, _, acc, av, ((s2.trans s3).trans s5), a6, e3⟩
  · refine .inl ⟨j2 (by omega), ?_⟩
    rw [List.drop_eq_nil_of_le (by omega)] at e3
    cases e3
    have R9 := R1.rest a.rep s2 hno
    refine k (.ref P) G2 H' (s1.trans s2) R9 ⟨P, av, rfl, a.hp, a.gp, a.fp, a.rds, fun j b zs h1 h2 => ?_⟩
    rcases restS_at h1 with ⟨g1, g2⟩ | ⟨g1, g2⟩
    · unfold noOwn at hno
      rw [List.all_eq_true] at hno
      have := hno j g1
      unfold At at g2
      rw [g2] at this
      cases this
    · exact a.ns j b zs g2 (at_wipe h2 g1)
theorem comp_turn {K : PySem.W.Frag} {F : Fm} {g : TG} {bind : Bx} {cond : Tx} {elt : Ex} {vs is : List Nat} (hg : GD K g bind is) (his : ∀ i ∈ is, i ∈ vs) {σ : Sg} {G1 : Hp} {xs : List D} {P : Addr} {out : List D × Sl} {J : It} (hj : JOk K J G1 xs)
    {i m : Nat} {H' : Hp} (hlt : i < xs.length) (c : CInv K F G1 σ vs bind cond elt xs P out i m H') :
    J.go i H' ∧ ∃ Nx : Hp → Prop, (∀ H3, Nx H3 → ∃ m', m' < m ∧ CInv K F G1 σ vs bind cond elt xs P out (i + 1) m' H3) ∧ ∀ v H3, J.yld i H' v H3 → g v (L2.wipe σ vs) H3 fun σ2 H2 => L2.wipe σ2 vs = L2.wipe σ vs ∧ tT K cond σ2 H2 fun b H3 =>
      if b = true then tE K (bFz elt) σ2 H3 fun y H4 => ∃ acc, H4 P = some (.lst acc) ∧ acc.length < sizeLine ∧ Nx (upd H4 P (.lst (acc ++ [y]))) else Nx H3 := by
  obtain ⟨rfl, hil, G2, ρ3, acc, av, s2, a, e3⟩ := c
  obtain ⟨j1, j2, j3⟩ := hj H' i (s2.trans a.rep.gh)
  refine ⟨j1 hlt, CInv K F G1 σ vs bind cond elt xs P out (i + 1) (xs.length - (i + 1)), fun H3 w => ⟨xs.length - (i + 1), by omega, w⟩, fun v H3 y => ?_⟩
  obtain ⟨x, hx, hd⟩ := drop_of hlt
  have z := (j3 v H3 x y hx).mono s2
  obtain ⟨G3, s3, R3, q3⟩ := rz_done a.lend z
  rw [hd] at e3
  unfold compGo at e3
  split at e3
  · cases e3
  rename_i ρ4 e4
  refine hg _ G3 H3 _ ρ3 ρ4 x v _ R3 q3 e4 fun σ4 R4 hw => ⟨(hw vs his).trans (wipe_wipe fun _ z => z), ?_⟩
  have hw4 : L2.wipe σ4 vs = L2.wipe σ vs := (hw vs his).trans (wipe_wipe fun _ z => z)
  split at e3
  · cases e3
  rename_i b ρ5 e5
  refine ⟨_, G3, ρ4, b, ρ5, R4, e5, fun G5 H5 s5 R5 => ?_⟩
  have a5 := Acc.of R5 a.fp a.rds (s3.trans s5)
  cases b with
  | true =>
    rw [if_pos rfl] at e3
    refine iteT (comp_elt (bind := bind) (cond := cond) (xs := xs.drop (i + 1)) (out := out) (Nx := CInv K F G1 σ vs bind cond elt xs P out (i + 1) (xs.length - (i + 1))) a5 hw4 e3 fun G6 H6 ρ6 acc6 av6 s6 a6 e6 => ⟨rfl, hlt, G6, ρ6, acc6, av6, (((s2.trans s3).trans s5).trans s6), a6, e6⟩)
  | false =>
    rw [if_neg (by simp)] at e3
    have a6 := a5.wipe vs
    rw [hw4] at a6
    exact iteF ⟨rfl, hlt, G5, _, acc, av, ((s2.trans s3).trans s5), a6, e3⟩
def comp2Go (vs vs1 : List Nat) (bind : Bx) (cond : Tx) (it1 : Ix) (bind1 : Bx) (cond1 : Tx) (elt : Ex) : List D → List D → Sl → Option (List D × Sl)
  | [], acc, ρ => some (acc, ρ)
  | x :: xs, acc, ρ => match bind x ρ with
    | none => none
    | some ρ1 => match cond ρ1 with
      | none => none
      | some (b, ρ2) => if b then match it1 ρ2 with
          | none => none
          | some (zs, ρ3) => match compGo vs1 bind1 cond1 elt zs acc (wipeS ρ3 vs1) with
            | none => none
            | some (acc', ρ4) => comp2Go vs vs1 bind cond it1 bind1 cond1 elt xs acc' (wipeS ρ4 vs)
        else comp2Go vs vs1 bind cond it1 bind1 cond1 elt xs acc (wipeS ρ2 vs)
def bComp2 (it : Ix) (vs vs1 : List Nat) (bind : Bx) (cond : Tx) (it1 : Ix) (bind1 : Bx) (cond1 : Tx) (elt : Ex) : Ex := fun ρ => match it ρ with
  | none => none
  | some (xs, ρ1) => if noOwn ρ1 vs then match comp2Go vs vs1 bind cond it1 bind1 cond1 elt xs [] (wipeS ρ1 vs) with
      | none => none
      | some (ys, ρ2) => some (.own ys, restS ρ1 ρ2 vs)
    else none
def CInv2 (K : PySem.W.Frag) (F : Fm) (G1 : Hp) (σ : Sg) (vs vs1 : List Nat) (bind : Bx) (cond : Tx) (it1 : Ix) (bind1 : Bx) (cond1 : Tx) (elt : Ex) (xs : List D) (P : Addr) (out : List D × Sl) (i m : Nat) (H' : Hp) : Prop :=
  m = xs.length - i ∧ i ≤ xs.length ∧ ∃ G2 ρ2 acc av, Same G1 G2 ∧ Acc K F G2 H' (L2.wipe σ vs) ρ2 P acc av ∧ comp2Go vs vs1 bind cond it1 bind1 cond1 elt (xs.drop i) acc ρ2 = some out
theorem read_comp2 {K : PySem.W.Frag} {wi wi1 : TI} {g g1 : TG} {it it1 : Ix} {bind bind1 : Bx} {cond cond1 : Tx} {elt : Ex} {vs is vs1 is1 : List Nat} (hi : ItD K wi it) (hg : GD K g bind is) (his : ∀ i ∈ is, i ∈ vs) (hi1 : ItD K wi1 it1) (hg1 : GD K g1 bind1 is1) (his1 : ∀ i ∈ is1, i ∈ vs1)
    (hvs : ∀ i ∈ vs1, i ∈ vs) {σ : Sg} {H : Hp} {Q : VK} (h : tE K (bComp2 it vs vs1 bind cond it1 bind1 cond1 elt) σ H Q) :
    tLc2 wi g (tT K cond) wi1 g1 (tT K cond1) (tE K (bFz elt)) vs vs1 σ H Q := by
  obtain ⟨F, G, ρ, r, ρ', R, q, k⟩ := h
  unfold bComp2 at q
  split at q
  · cases q
  rename_i xs ρ1 e1
  split at q
  rotate_left
  · cases q
  rename_i hno
  split at q
  · cases q
  rename_i ys ρ2 e2
  cases q
  refine hi σ H _ ⟨F, G, ρ, xs, ρ1, R, e1, fun J H1 G1 s1 R1 hj => ?_⟩
  intro P hP
  have a0 : Acc K F G1 (upd H1 P (.lst [])) σ ρ1 P [] [] := ⟨R1.new hP, upd_same, R1.gNone hP, R1.fNone hP, R1.oNe hP, rfl⟩
  refine ⟨CInv2 K F G1 σ vs vs1 bind cond it1 bind1 cond1 elt xs P (ys, ρ2), ⟨xs.length, rfl, Nat.zero_le _, G1, _, [], [], Same.refl _, a0.wipe vs, e2⟩, ?_⟩
  rintro i m H' ⟨rfl, hil, G2, ρ3, acc, av, s2, a, e3⟩
  obtain ⟨j1, j2, j3⟩ := hj H' i (s2.trans a.rep.gh)
  by_cases hlt : i < xs.length
  · refine .inr ⟨j1 hlt, CInv2 K F G1 σ vs vs1 bind cond it1 bind1 cond1 elt xs P (ys, ρ2) (i + 1) (xs.length - (i + 1)), fun H3 w => ⟨xs.length - (i + 1), by omega, w⟩, fun v H3 y => ?_⟩
    obtain ⟨x, hx, hd⟩ := drop_of hlt
    have z := (j3 v H3 x y hx).mono s2
    obtain ⟨G3, s3, R3, q3⟩ := rz_done a.lend z
    rw [hd] at e3
    unfold comp2Go at e3
    split at e3
    · cases e3
    rename_i ρ4 e4
    refine hg _ G3 H3 _ ρ3 ρ4 x v _ R3 q3 e4 fun σ4 R4 hw => ⟨(hw vs his).trans (wipe_wipe fun _ z => z), ?_⟩
    have hw4 : L2.wipe σ4 vs = L2.wipe σ vs := (hw vs his).trans (wipe_wipe fun _ z => z)
    split at e3
    · cases e3
    rename_i b ρ5 e5
    refine ⟨_, G3, ρ4, b, ρ5, R4, e5, fun G5 H5 s5 R5 => ?_⟩
    cases b with
    | true =>
      rw [if_pos rfl] at e3
      refine iteT ?_
      split at e3
      · cases e3
      rename_i zs ρ6 e6
      split at e3
      · cases e3
      rename_i acc' ρ7 e7
      refine hi1 σ4 H5 _ ⟨_, G5, ρ5, zs, ρ6, R5, e6, fun J1 H6 G6 s6 R6 hj1 => ?_⟩
      have a6 := Acc.of R6 a.fp a.rds ((s3.trans s5).trans s6)
      refine ⟨CInv K F G6 σ4 vs1 bind1 cond1 elt zs P (acc', ρ7), ⟨zs.length, rfl, Nat.zero_le _, G6, _, acc, av, Same.refl _, a6.wipe vs1, e7⟩, fun j n H7 c => ?_⟩
      by_cases hl1 : j < zs.length
      · exact .inr (comp_turn hg1 his1 hj1 hl1 c)
      · obtain ⟨rfl, hjl, G7, ρ8, acc8, av8, s7, a8, e8⟩ := c
        obtain ⟨k1, k2, k3⟩ := hj1 H7 j (s7.trans a8.rep.gh)
        refine .inl ⟨k2 (by omega), ?_⟩
        rw [List.drop_eq_nil_of_le (by omega)] at e8
        cases e8
        have a9 := a8.wipe vs
        rw [wipe_wipe hvs, hw4] at a9
        exact ⟨rfl, hlt, G7, _, _, av8, ((((s2.trans s3).trans s5).trans s6).trans s7), a9, e3⟩
    | false =>
      rw [if_neg (by simp)] at e3
      have a6 := (Acc.of R5 a.fp a.rds (s3.trans s5)).wipe vs
      rw [hw4] at a6
      exact iteF ⟨rfl, hlt, G5, _, acc, av, ((s2.trans s3).trans s5), a6, e3⟩
  · refine .inl ⟨j2 (by omega), ?_⟩
    rw [List.drop_eq_nil_of_le (by omega)] at e3
    cases e3
    have R9 := R1.rest a.rep s2 hno
    refine k (.ref P) G2 H' (s1.trans s2) R9 ⟨P, av, rfl, a.hp, a.gp, a.fp, a.rds, fun j b zs h1 h2 => ?_⟩
    rcases restS_at h1 with ⟨g1, g2⟩ | ⟨g1, g2⟩
    · unfold noOwn at hno
      rw [List.all_eq_true] at hno
      have := hno j g1
      unfold At at g2
      rw [g2] at this
      cases this
    · exact a.ns j b zs g2 (at_wipe h2 g1)
end M
namespace M
open PySem PySem.Spec PyProof.Rows L2
section
variable {X : Cx}
def PTsv (X : Cx) (ifs : List Expr) (f : Tx) : Prop := PTs X ifs (tT X.K f)
theorem tsv_nil : PTsv X [] bYes := ⟨fun pins s σ H Q I h => by
  obtain ⟨F, G, ρ, b, ρ', R, e, k⟩ := h
  cases e
  exact pts_nil.run pins s σ H Q I (k G H (Same.refl G) R)⟩
theorem tsv_one {c : Expr} {f : Tx} (h : PTv X c f) : PTsv X [c] f := pts_one h
theorem ev_comp {elt tg iter : Expr} {ifs : List Expr} {scope : Scope} {own : List (Str × Nat)} {pos : Pos} {it : Ix} {bind : Bx} {is : List Nat} {cond : Tx} {fe : Ex} (hc : X.calm = true) (hN : X.N.Nodup) (ok : BlkOk X.N X.env.scope scope own) (hi : PIv X tg iter it)
    (hg : ∀ (s : Shared) (H : Hp) (C : Addr) (cl : List (Str × Addr)) (fp : List Addr), PGv (X.blk s H scope (compEnvC scope cl C X.env) fp) tg bind is)
    (ht : ∀ (s : Shared) (H : Hp) (C : Addr) (cl : List (Str × Addr)) (fp : List Addr), PTsv (X.blk s H scope (compEnvC scope cl C X.env) fp) ifs cond)
    (he : ∀ (s : Shared) (H : Hp) (C : Addr) (cl : List (Str × Addr)) (fp : List Addr), PEv (X.blk s H scope (compEnvC scope cl C X.env) fp) elt fe)
    (his : (is.all fun i => (own.map (·.2)).contains i) = true := by rfl)
    (hs : ∀ x, foldedSetIterable iter X.env x = pure x := by intro _; rfl) :
    PEv X (.ListComp elt [⟨tg, iter, ifs, 0⟩] scope pos) (bComp it (own.map (·.2)) bind cond fe) :=
  PE.imp (pe_lc (g := tG X.K bind is) (tt := tT X.K cond) (te := tE X.K (bFz fe)) hc hN hi ok hg ht (fun s H C cl fp => ev_fz (he s H C cl fp)) hs) fun σ H Q h => read_comp itd_self gd_self (fun i hi => by
    rw [List.all_eq_true] at his
    exact List.contains_iff_mem.mp (his i hi)) h
theorem sv_setComp {elt tg iter : Expr} {ifs : List Expr} {scope : Scope} {own : List (Str × Nat)} {pos spos : Pos} {it : Ix} {bind : Bx} {is : List Nat} {cond : Tx} {fe : Ex} {i : Nat} {y : Str} {py : Pos} (hc : X.calm = true) (hN : X.N.Nodup) (hy : X.N[i]? = some y) (hyl : X.env.scope.names.lookup y = some .local)
    (hsw : swapsWith (.ListComp elt [⟨tg, iter, ifs, 0⟩] scope pos) (some (.Name y py)) spos.line X.env = pure true) (ok : BlkOk X.N X.env.scope scope own) (hi : PIv X tg iter it)
    (hg : ∀ (s : Shared) (H : Hp) (C : Addr) (cl : List (Str × Addr)) (fp : List Addr), PGv (X.blk s H scope (compEnvC scope cl C X.env) fp) tg bind is)
    (ht : ∀ (s : Shared) (H : Hp) (C : Addr) (cl : List (Str × Addr)) (fp : List Addr), PTsv (X.blk s H scope (compEnvC scope cl C X.env) fp) ifs cond)
    (he : ∀ (s : Shared) (H : Hp) (C : Addr) (cl : List (Str × Addr)) (fp : List Addr), PEv (X.blk s H scope (compEnvC scope cl C X.env) fp) elt fe)
    (his : (is.all fun i => (own.map (·.2)).contains i) = true := by rfl)
    (hs : ∀ x, foldedSetIterable iter X.env x = pure x := by intro _; rfl) :
    PSv X (.Assign [.Name y py] (.ListComp elt [⟨tg, iter, ifs, 0⟩] scope pos) spos) (sSet i (bComp it (own.map (·.2)) bind cond fe)) :=
  PS.imp (ps_setLc (g := tG X.K bind is) (tt := tT X.K cond) (te := tE X.K (bFz fe)) hc hN hy hyl hsw hi ok hg ht (fun s H C cl fp => ev_fz (he s H C cl fp)) hs) fun D σ H h => by
    obtain ⟨F, G, ρ, fl, ρ', R, q, k⟩ := h
    unfold sSet at q
    split at q
    · cases q
    rename_i r ρ1 e1
    obtain ⟨ρ2, e2, eq⟩ := Option.map_eq_some_iff.mp q
    cases eq
    refine read_comp itd_self gd_self (fun i hi => by
      rw [List.all_eq_true] at his
      exact List.contains_iff_mem.mp (his i hi)) ⟨F, G, ρ, r, ρ1, R, e1, fun v G1 H1 s1 R1 q => k _ G1 H1 s1 (R1.put q e2)⟩
theorem ev_comp2 {elt tg iter tg1 iter1 : Expr} {ifs ifs1 : List Expr} {scope : Scope} {own : List (Str × Nat)} {vs1 : List Nat} {pos : Pos} {it it1 : Ix} {bind bind1 : Bx} {is is1 : List Nat} {cond cond1 : Tx} {fe : Ex} (hc : X.calm = true) (hN : X.N.Nodup) (ok : BlkOk X.N X.env.scope scope own) (hi : PIv X tg iter it)
    (hg : ∀ (s : Shared) (H : Hp) (C : Addr) (cl : List (Str × Addr)) (fp : List Addr), PGv (X.blk s H scope (compEnvC scope cl C X.env) fp) tg bind is)
    (ht : ∀ (s : Shared) (H : Hp) (C : Addr) (cl : List (Str × Addr)) (fp : List Addr), PTsv (X.blk s H scope (compEnvC scope cl C X.env) fp) ifs cond)
    (hi1 : ∀ (s : Shared) (H : Hp) (C : Addr) (cl : List (Str × Addr)) (fp : List Addr), PIv (X.blk s H scope (compEnvC scope cl C X.env) fp) tg1 iter1 it1)
    (hg1 : ∀ (s : Shared) (H : Hp) (C : Addr) (cl : List (Str × Addr)) (fp : List Addr), PGv (X.blk s H scope (compEnvC scope cl C X.env) fp) tg1 bind1 is1)
    (ht1 : ∀ (s : Shared) (H : Hp) (C : Addr) (cl : List (Str × Addr)) (fp : List Addr), PTsv (X.blk s H scope (compEnvC scope cl C X.env) fp) ifs1 cond1)
    (he : ∀ (s : Shared) (H : Hp) (C : Addr) (cl : List (Str × Addr)) (fp : List Addr), PEv (X.blk s H scope (compEnvC scope cl C X.env) fp) elt fe)
    (his : (is.all fun i => (own.map (·.2)).contains i) = true := by rfl) (his1 : (is1.all fun i => vs1.contains i) = true := by rfl) (hvs : (vs1.all fun i => (own.map (·.2)).contains i) = true := by rfl)
    (hs : ∀ x, foldedSetIterable iter X.env x = pure x := by intro _; rfl) (hs1 : ∀ env x, foldedSetIterable iter1 env x = pure x := by intro _ _; rfl) :
    PEv X (.ListComp elt [⟨tg, iter, ifs, 0⟩, ⟨tg1, iter1, ifs1, 0⟩] scope pos) (bComp2 it (own.map (·.2)) vs1 bind cond it1 bind1 cond1 fe) := by
  have hv : ∀ i ∈ vs1, i ∈ own.map (·.2) := fun i hi => by
    rw [List.all_eq_true] at hvs
    exact List.contains_iff_mem.mp (hvs i hi)
  exact PE.imp (pe_lc2 (g := tG X.K bind is) (tt := tT X.K cond) (wi1 := tIt X.K it1) (g1 := tG X.K bind1 is1) (tt1 := tT X.K cond1) (te := tE X.K (bFz fe)) hc hN hi ok hv hg ht hi1 hg1 ht1 (fun s H C cl fp => ev_fz (he s H C cl fp)) hs hs1) fun σ H Q h => read_comp2 itd_self gd_self (fun i hi => by
    rw [List.all_eq_true] at his
    exact List.contains_iff_mem.mp (his i hi)) itd_self gd_self (fun i hi => by
    rw [List.all_eq_true] at his1
    exact List.contains_iff_mem.mp (his1 i hi)) hv h
end
def enter : SV → SV
  | .own _ xs => .own true xs
  | s => s
def outs : List SV → Nat → Sl → Option (List SV)
  | [], _, _ => some []
  | .d x :: as, k, ρ => (outs as (k + 1) ρ).map fun r => .d x :: r
  | .own _ _ :: as, k, ρ => match ρ[k]? with
    | some (some (.own true ys)) => (outs as (k + 1) ρ).map fun r => .own true ys :: r
    | _ => none
def fin (fl : Fl) (ρ : Sl) : Option RV := match fl with
  | .nx => some (.d .non)
  | .rt (.d x) => some (.d x)
  | .rt (.own xs) => some (.own xs)
  | .rt (.bor i) => match ρ[i]? with
    | some (some (.own false xs)) => some (.own xs)
    | _ => none
  | _ => none
abbrev Fx := List SV → Option (RV × List SV)
def runB (n m : Nat) (body : Sx) : Fx := fun args => if args.length = m then match body (args.map some ++ List.replicate (n - args.length) none) with
  | none => none
  | some (fl, ρ) => match fin fl ρ, outs args 0 ρ with
    | some r, some as => some (r, as)
    | _, _ => none
  else none
def spV (K : PySem.W.Frag) (f : Fx) : Sp := fun vs H Q E => ∃ F G args r as, Rep K F G H (vs.map some) (args.map some) ∧ (∀ (k : Nat) (b : Bool) (xs : List D), args[k]? = some (SV.own b xs) → b = true) ∧ f args = some (r, as) ∧
  ∀ v G' H', Same G G' → Rep K F G' H' (vs.map some) (as.map some) → RR K F G' H' (vs.map some) (as.map some) r v → Q v H'
theorem at_map {α : Type} {l : List α} {i : Nat} {x : α} : At (l.map some) i x ↔ l[i]? = some x := by
  unfold At
  rw [List.getElem?_map]
  cases l[i]? with
  | none => simp
  | some y => simp
theorem at_ext {α : Type} {l : List α} {n i : Nat} {x : α} : At (l.map some ++ List.replicate n none) i x ↔ l[i]? = some x := by
  unfold At
  by_cases h : i < l.length
  · rw [List.getElem?_append_left (by simpa using h)]
    exact at_map
  · rw [List.getElem?_append_right (by simpa using h), List.getElem?_replicate]
    rw [List.getElem?_eq_none (by omega : l.length ≤ i)]
    split <;> simp
theorem Rep.start {K : PySem.W.Frag} {F : Fm} {G H : Hp} {vs : List V} {args : List SV} {n : Nat} (R : Rep K F G H (vs.map some) (args.map some)) : Rep K F G H (vs.map some ++ List.replicate n none) (args.map some ++ List.replicate n none) where
  gh := R.gh
  fh := R.fh
  fg := R.fg
  len := by have := R.len; simp at this ⊢; omega
  dat := fun i x e => by
    obtain ⟨v, h1, h2⟩ := R.dat i x (at_map.mpr (at_ext.mp e))
    exact ⟨v, at_ext.mpr (at_map.mp h1), h2⟩
  own := fun i b xs e => by
    obtain ⟨p, vs', h1, h2⟩ := R.own i b xs (at_map.mpr (at_ext.mp e))
    exact ⟨p, vs', at_ext.mpr (at_map.mp h1), h2⟩
  sep := fun i j p b c xs ys hij e1 e2 e3 e4 => R.sep i j p b c xs ys hij (at_map.mpr (at_ext.mp e1)) (at_map.mpr (at_ext.mp e2)) (at_map.mpr (at_ext.mp e3)) (at_map.mpr (at_ext.mp e4))
theorem outs_get {ρ : Sl} : ∀ {args : List SV} {k : Nat} {as : List SV}, outs args k ρ = some as → as.length = args.length ∧ (∀ (i : Nat) (x : D), as[i]? = some (SV.d x) → args[i]? = some (SV.d x)) ∧ (∀ (i : Nat) (b : Bool) (ys : List D), as[i]? = some (SV.own b ys) → b = true ∧ (∃ c xs, args[i]? = some (SV.own c xs)) ∧ oAt ρ (k + i) true ys)
  | [], k, as, e => by cases e; simp
  | .d x :: args, k, as, e => by
    obtain ⟨r, h1, h2⟩ := Option.map_eq_some_iff.mp e
    subst h2
    obtain ⟨g1, g2, g3⟩ := outs_get h1
    refine ⟨by simp [g1], fun i y q => ?_, fun i b ys q => ?_⟩
    · cases i with
      | zero => simpa using q
      | succ i => exact g2 i y (by simpa using q)
    · cases i with
      | zero => simp at q
      | succ i =>
        obtain ⟨z1, z2, z3⟩ := g3 i b ys (by simpa using q)
        exact ⟨z1, by simpa using z2, by have : k + (i + 1) = k + 1 + i := by omega
                                         rw [this]; exact z3⟩
  | .own c xs :: args, k, as, e => by
    unfold outs at e
    split at e
    rotate_left
    · cases e
    rename_i ys o
    obtain ⟨r, h1, h2⟩ := Option.map_eq_some_iff.mp e
    subst h2
    obtain ⟨g1, g2, g3⟩ := outs_get h1
    refine ⟨by simp [g1], fun i y q => ?_, fun i b zs q => ?_⟩
    · cases i with
      | zero => simp at q
      | succ i => exact g2 i y (by simpa using q)
    · cases i with
      | zero =>
        simp at q
        obtain ⟨rfl, rfl⟩ := q
        exact ⟨rfl, ⟨c, xs, rfl⟩, o⟩
      | succ i =>
        obtain ⟨z1, z2, z3⟩ := g3 i b zs (by simpa using q)
        exact ⟨z1, by simpa using z2, by have : k + (i + 1) = k + 1 + i := by omega
                                         rw [this]; exact z3⟩
theorem fn_end {K : PySem.W.Frag} {F : Fm} {G G' H H' : Hp} {vs : List V} {args as : List SV} {σ' : Sg} {ρ' : Sl} {fl : Fl} {r : RV} {v : V} (R : Rep K F G H (vs.map some) (args.map some)) (ht : ∀ (k : Nat) (b : Bool) (xs : List D), args[k]? = some (SV.own b xs) → b = true) (s : Same G G') (R' : Rep K F G' H' σ' ρ')
    (e1 : fin fl ρ' = some r) (e2 : outs args 0 ρ' = some as) (hv : match fl with | .rt q => RR K F G' H' σ' ρ' q v | _ => v = V.non) :
    Rep K F G' H' (vs.map some) (as.map some) ∧ RR K F G' H' (vs.map some) (as.map some) r v := by
  obtain ⟨g1, g2, g3⟩ := outs_get e2
  have key : ∀ k b ys, oAt (as.map some) k b ys → ∃ p, vAt (vs.map some) k (.ref p) ∧ vAt σ' k (.ref p) ∧ oAt ρ' k true ys ∧ b = true ∧ ∃ c xs, oAt (args.map some) k c xs := fun k b ys e => by
    obtain ⟨z1, ⟨c, xs, z2⟩, z3⟩ := g3 k b ys (at_map.mp e)
    have z3 : oAt ρ' k true ys := by simpa using z3
    have hc := ht k c xs z2
    obtain ⟨p, us, h1, h2, h3, h4, h5, h6⟩ := R.own k c xs (at_map.mpr z2)
    obtain ⟨p', us', k1, k2, k3, k4, k5, k6⟩ := R'.own k true ys z3
    have : p' = p := Option.some.inj ((k6 rfl).symm.trans (h6 hc))
    subst this
    exact ⟨p', h1, k1, z3, z1, c, xs, at_map.mpr z2⟩
  refine ⟨⟨R'.gh, R'.fh, R'.fg, ?_, fun i x e => ?_, fun i b xs e => ?_, fun i j p b c xs ys hij f1 f2 f3 f4 => ?_⟩, ?_⟩
  · have := R.len
    simp at this ⊢; omega
  · obtain ⟨w, h1, h2⟩ := R.dat i x (at_map.mpr (g2 i x (at_map.mp e)))
    exact ⟨w, h1, RD.mono s _ _ h2⟩
  · obtain ⟨p, h1, h2, h3, h4, _⟩ := key i b xs e
    obtain ⟨p', us', k1, k2, k3, k4, k5, k6⟩ := R'.own i true xs h3
    have : p' = p := by cases k1.inj h2; rfl
    subst this
    exact ⟨p', us', h1, k2, k3, k4, k5, fun _ => k6 rfl⟩
  · obtain ⟨_, _, _, _, _, c1, x1, o1⟩ := key i b xs f1
    obtain ⟨_, _, _, _, _, c2, x2, o2⟩ := key j c ys f2
    exact R.sep i j p c1 c2 x1 x2 hij o1 o2 f3 f4
  · cases fl with
    | nx => cases e1; exact hv
    | bk => cases e1
    | ct => cases e1
    | rt q =>
      cases q with
      | d x => cases e1; exact hv
      | own xs =>
        cases e1
        obtain ⟨q, us, rfl, h2, h3, h4, h5, h6⟩ := hv
        refine ⟨q, us, rfl, h2, h3, h4, h5, fun k b ys o1 o2 => ?_⟩
        obtain ⟨p, k1, k2, k3, k4, _⟩ := key k b ys o1
        have : p = q := by cases k1.inj o2; rfl
        subst this
        exact h6 k true ys k3 k2
      | bor i =>
        unfold fin at e1
        dsimp only at e1
        split at e1
        rotate_left
        · cases e1
        rename_i xs o
        cases e1
        have hv : vAt σ' i v := hv
        obtain ⟨q, us, h1, h2, h3, h4, h5, h6⟩ := R'.own i false xs o
        cases h1.inj hv
        refine ⟨q, us, rfl, h2, h3, h4, h5, fun k b ys o1 o2 => ?_⟩
        obtain ⟨p, k1, k2, k3, k4, _⟩ := key k b ys o1
        have : p = q := by cases k1.inj o2; rfl
        subst this
        have hik : i ≠ k := fun z => by subst z; cases At.inj o k3
        exact R'.sep i k p false true xs ys hik o k3 hv k2
section
variable {P : Program} {w : World} {K : PySem.W.Frag} {mg : Str → Option Value} {base : Heap}
theorem fn_body {N ps : List Str} {body : Sx} {vs : List V} {H : Hp} {Q : VK} {E : XK} (h : spV K (runB N.length ps.length body) vs H Q E) : tS K body { nx := fun _ H' => Q .non H', rt := Q } (L2.start N vs) H := by
  have hl : ∀ args r as, runB N.length ps.length body args = some (r, as) → args.length = ps.length := fun args r as e => by
    unfold runB at e
    split at e
    · assumption
    · cases e
  obtain ⟨F, G, args, r, as, R, ht, e, q⟩ := h
  have hlen : args.length = vs.length := by simpa using R.len
  have e' := e
  unfold runB at e
  rw [if_pos (hl args r as e')] at e
  split at e
  · cases e
  rename_i fl ρ' e1
  split at e
  rotate_left
  · cases e
  rename_i r' as' e2 e3
  cases e
  have R0 : Rep K F G H (L2.start N vs) (args.map some ++ List.replicate (N.length - args.length) none) := by
    unfold L2.start
    rw [hlen]
    exact R.start
  refine ⟨F, G, _, fl, ρ', R0, e1, fun σ' G' H' s' R' => ?_⟩
  cases fl with
  | nx =>
    obtain ⟨z1, z2⟩ := fn_end (v := .non) R ht s' R' e2 e3 rfl
    exact q .non G' H' s' z1 z2
  | bk => cases e2
  | ct => cases e2
  | rt u =>
    intro v hv
    obtain ⟨z1, z2⟩ := fn_end R ht s' R' e2 e3 hv
    exact q v G' H' s' z1 z2
theorem fn_ok {x qual : Str} {st : Stmt} {f : Addr} {fd : FuncData} {N ps : List Str} {k : Nat} {body : Sx} (F : Fun K x qual st f fd) (S : FnScope N ps (defScope st)) {g : Fx} (hg : g = runB N.length ps.length body)
    (hb : ∀ (cdv : Value) (A : Around) (outer : List Env) (s : Shared) (H : Hp) (E : XK), Room k (A.deeper (envOfC qual (defScope st) s.heap.objs.size f cdv)) →
      PBv (cxOf CX0 P w K mg base N qual (defScope st) f cdv A outer s H E).nox (defBody st) body) : FnOk P w K mg base CX0 (k + 1) f fd ps (spV K g) := by
  subst hg
  refine F.ok S (fun vs H Q E h => ?_) (fun cdv A outer s H vs Q E hr h => ⟨_, hb cdv A outer s H E hr, fn_body h⟩)
  obtain ⟨F, G, args, r, as, R, ht, e, q⟩ := h
  have := R.len
  have hl : args.length = ps.length := by
    unfold runB at e
    split at e
    · assumption
    · cases e
  rw [← hl]
  simpa using this.symm
end
end M
namespace M
open PySem PySem.Spec PyProof.Rows L2
def argOf (ρ : Sl) : RV → Option SV
  | .d x => some (.d x)
  | .own _ => none
  | .bor i => match ρ[i]? with
    | some (some (.own _ xs)) => some (.own true xs)
    | _ => none
def argsOf (ρ : Sl) : List RV → Option (List SV)
  | [] => some []
  | r :: rs => match argOf ρ r, argsOf ρ rs with
    | some x, some xs => some (x :: xs)
    | _, _ => none
def give : List RV → List SV → Sl → Option Sl
  | [], [], ρ => some ρ
  | .d _ :: rs, .d _ :: as, ρ => give rs as ρ
  | .bor i :: rs, .own _ ys :: as, ρ => match ρ[i]? with
    | some (some (.own b _)) => give rs as (ρ.set i (some (.own b ys)))
    | _ => none
  | _, _, _ => none
def bors : List RV → List Nat
  | [] => []
  | .bor i :: rs => i :: bors rs
  | _ :: rs => bors rs
def bCall (f : Fx) (fs : Ax) : Ex := fun ρ => match fs ρ with
  | none => none
  | some (rs, ρ1) => if (bors rs).Nodup then match argsOf ρ1 rs with
      | none => none
      | some args => match f args with
        | none => none
        | some (.bor _, _) => none
        | some (r, as) => (give rs as ρ1).map fun ρ2 => (r, ρ2)
    else none
theorem mem_bors {rs : List RV} {i : Nat} : i ∈ bors rs ↔ ∃ k : Nat, rs[k]? = some (RV.bor i) := by
  induction rs with
  | nil => simp [bors]
  | cons r rs ih =>
    constructor
    · intro h
      cases r with
      | bor j =>
        rcases List.mem_cons.mp (show i ∈ j :: bors rs from h) with rfl | h
        · exact ⟨0, rfl⟩
        · obtain ⟨k, hk⟩ := ih.mp h
          exact ⟨k + 1, by simpa using hk⟩
      | d x =>
        obtain ⟨k, hk⟩ := ih.mp (show i ∈ bors rs from h)
        exact ⟨k + 1, by simpa using hk⟩
      | own x =>
        obtain ⟨k, hk⟩ := ih.mp (show i ∈ bors rs from h)
        exact ⟨k + 1, by simpa using hk⟩
    · rintro ⟨k, hk⟩
      cases k with
      | zero =>
        simp at hk
        subst hk
        exact List.mem_cons_self
      | succ k =>
        have := ih.mpr ⟨k, by simpa using hk⟩
        cases r with
        | bor j => exact List.mem_cons_of_mem _ this
        | d x => exact this
        | own x => exact this
theorem bors_uniq : ∀ {rs : List RV} {i j k : Nat}, (bors rs).Nodup → rs[j]? = some (RV.bor i) → rs[k]? = some (RV.bor i) → j = k
  | [], i, j, k, h, e1, e2 => by simp at e1
  | r :: rs, i, j, k, h, e1, e2 => by
    have ht : (bors rs).Nodup := by
      cases r with
      | bor l => exact (List.nodup_cons.mp (show (l :: bors rs).Nodup from h)).2
      | d x => exact h
      | own x => exact h
    cases j with
    | zero =>
      simp at e1
      subst e1
      have hn : i ∉ bors rs := (List.nodup_cons.mp (show (i :: bors rs).Nodup from h)).1
      cases k with
      | zero => rfl
      | succ k => exact absurd (mem_bors.mpr ⟨k, by simpa using e2⟩) hn
    | succ j =>
      cases k with
      | zero =>
        simp at e2
        subst e2
        have hn : i ∉ bors rs := (List.nodup_cons.mp (show (i :: bors rs).Nodup from h)).1
        exact absurd (mem_bors.mpr ⟨j, by simpa using e1⟩) hn
      | succ k =>
        have e1 : rs[j]? = some (RV.bor i) := by simpa using e1
        have e2 : rs[k]? = some (RV.bor i) := by simpa using e2
        have := bors_uniq ht e1 e2
        rw [this]
theorem argsOf_get {ρ : Sl} : ∀ {rs : List RV} {args : List SV}, argsOf ρ rs = some args → args.length = rs.length ∧ (∀ (k : Nat) (x : D), args[k]? = some (SV.d x) → rs[k]? = some (RV.d x)) ∧
    (∀ (k : Nat) (b : Bool) (xs : List D), args[k]? = some (SV.own b xs) → b = true ∧ ∃ i c, rs[k]? = some (RV.bor i) ∧ oAt ρ i c xs)
  | [], args, e => by cases e; simp
  | r :: rs, args, e => by
    unfold argsOf at e
    split at e
    rotate_left
    · cases e
    rename_i x xs e1 e2
    cases e
    obtain ⟨g1, g2, g3⟩ := argsOf_get e2
    refine ⟨by simp [g1], fun k y q => ?_, fun k b ys q => ?_⟩
    · cases k with
      | zero =>
        simp at q
        subst q
        cases r with
        | d z => cases e1; rfl
        | own z => cases e1
        | bor i =>
          dsimp only [argOf] at e1
          split at e1 <;> cases e1
      | succ k => simpa using g2 k y (by simpa using q)
    · cases k with
      | zero =>
        simp at q
        subst q
        cases r with
        | d z => cases e1
        | own z => cases e1
        | bor i =>
          dsimp only [argOf] at e1
          split at e1
          · rename_i c zs o
            cases e1
            exact ⟨rfl, i, c, rfl, o⟩
          · cases e1
      | succ k => simpa using g3 k b ys (by simpa using q)
theorem RNs.get {K : PySem.W.Frag} {G : Hp} {σ : Sg} : ∀ {rs : List RV} {vs : List V}, RNs K G σ rs vs → vs.length = rs.length ∧ ∀ (k : Nat) (r : RV), rs[k]? = some r → ∃ v, vs[k]? = some v ∧ RN K G σ r v
  | [], vs, h => by cases h; simp
  | r :: rs, vs, ⟨x, xs, e1, e2, e3⟩ => by
    subst e1
    obtain ⟨g1, g2⟩ := RNs.get e3
    refine ⟨by simp [g1], fun k q e => ?_⟩
    cases k with
    | zero =>
      simp at e
      subst e
      exact ⟨x, rfl, e2⟩
    | succ k => simpa using g2 k q (by simpa using e)
theorem give_get : ∀ {rs : List RV} {as : List SV} {ρ ρ2 : Sl}, give rs as ρ = some ρ2 → (bors rs).Nodup → ρ2.length = ρ.length ∧ ∀ (i : Nat) (x : SV), At ρ2 i x →
    (∃ (k : Nat) (b c : Bool) (ys xs : List D), rs[k]? = some (RV.bor i) ∧ as[k]? = some (SV.own c ys) ∧ x = .own b ys ∧ oAt ρ i b xs) ∨ (i ∉ bors rs ∧ At ρ i x)
  | [], [], ρ, ρ2, e, h => by cases e; exact ⟨rfl, fun i x q => .inr ⟨by simp [bors], q⟩⟩
  | [], a :: as, ρ, ρ2, e, h => by cases e
  | .d y :: rs, [], ρ, ρ2, e, h => by cases e
  | .d y :: rs, .own _ _ :: as, ρ, ρ2, e, h => by cases e
  | .d y :: rs, .d _ :: as, ρ, ρ2, e, h => by
    obtain ⟨g1, g2⟩ := give_get (rs := rs) e h
    refine ⟨g1, fun i x q => ?_⟩
    rcases g2 i x q with ⟨k, b, c, ys, xs, h1, h2, h3⟩ | h
    · exact .inl ⟨k + 1, b, c, ys, xs, by simpa using h1, by simpa using h2, h3⟩
    · exact .inr h
  | .own _ :: rs, [], ρ, ρ2, e, h => by cases e
  | .own _ :: rs, .d _ :: as, ρ, ρ2, e, h => by cases e
  | .own _ :: rs, .own _ _ :: as, ρ, ρ2, e, h => by cases e
  | .bor j :: rs, [], ρ, ρ2, e, h => by cases e
  | .bor j :: rs, .d _ :: as, ρ, ρ2, e, h => by cases e
  | .bor j :: rs, .own c ys :: as, ρ, ρ2, e, h => by
    unfold give at e
    split at e
    rotate_left
    · cases e
    rename_i b xs o
    have hd := List.nodup_cons.mp (show (j :: bors rs).Nodup from h)
    obtain ⟨g1, g2⟩ := give_get e hd.2
    refine ⟨by rw [g1, List.length_set], fun i x q => ?_⟩
    rcases g2 i x q with ⟨k, b', c', ys', xs', h1, h2, h3, h4⟩ | ⟨h1, h2⟩
    · have hij : j ≠ i := fun z => hd.1 (mem_bors.mpr ⟨k, z ▸ h1⟩)
      rcases At.of_set h4 with ⟨z, _, _⟩ | ⟨_, h4⟩
      · exact absurd z hij
      · exact .inl ⟨k + 1, b', c', ys', xs', by simpa using h1, by simpa using h2, h3, h4⟩
    · rcases h2.of_set with ⟨rfl, z, _⟩ | ⟨z, h2⟩
      · cases z
        exact .inl ⟨0, b, c, ys, xs, rfl, rfl, rfl, o⟩
      · exact .inr ⟨fun m => by
          rcases List.mem_cons.mp (show i ∈ j :: bors rs from m) with w | w
          · exact z w.symm
          · exact h1 w, h2⟩
theorem read_call {K : PySem.W.Frag} {f : Fx} {fs : Ax} {E : XK} {σ : Sg} {H : Hp} {Q : VK} (h : tE K (bCall f fs) σ H Q) : tCall (spV K f) [] E (tAr K fs) σ H Q := by
  obtain ⟨F, G, ρ, r, ρ2, R, e, k⟩ := h
  unfold bCall at e
  split at e
  · cases e
  rename_i rs ρ1 e1
  split at e
  rotate_left
  · cases e
  rename_i hnd
  split at e
  · cases e
  rename_i args e2
  split at e
  · cases e
  · cases e
  rename_i r' as hnb e3
  obtain ⟨ρ3, e4, eq⟩ := Option.map_eq_some_iff.mp e
  cases eq
  refine ⟨F, G, ρ, rs, ρ1, R, e1, fun vs G1 H1 s1 R1 q1 => ?_⟩
  show spV K f (vs ++ []) H1 Q E
  rw [List.append_nil]
  obtain ⟨l1, a1, a2⟩ := argsOf_get e2
  obtain ⟨l2, n1⟩ := q1.get
  obtain ⟨l3, g1⟩ := give_get e4 hnd
  let A : Addr → Prop := fun p => ∃ i b xs, i ∈ bors rs ∧ oAt ρ1 i b xs ∧ vAt σ i (.ref p)
  have decA : ∀ p, Decidable (A p) := fun p => Classical.propDecidable _
  let F' : Fm := ⟨fun b => if G1 b = none ∧ ¬ A b then H1 b else none, fun j => match vs[j]? with | some (.ref p) => some p | _ => none⟩
  have fp : ∀ b o, F'.hp b = some o → G1 b = none ∧ ¬ A b ∧ H1 b = some o := fun b o q => by
    have q : (if G1 b = none ∧ ¬ A b then H1 b else none) = some o := q
    split at q
    · rename_i z; exact ⟨z.1, z.2, q⟩
    · cases q
  have pf : ∀ b o, G1 b = none → ¬ A b → H1 b = some o → F'.hp b = some o := fun b o z1 z2 z3 => by
    show (if G1 b = none ∧ ¬ A b then H1 b else none) = some o
    rw [if_pos ⟨z1, z2⟩]; exact z3
  have slot : ∀ j b xs, args[j]? = some (SV.own b xs) → b = true ∧ ∃ i c p us, rs[j]? = some (RV.bor i) ∧ oAt ρ1 i c xs ∧ vAt σ i (.ref p) ∧ vs[j]? = some (V.ref p) ∧ H1 p = some (.lst us) ∧ G1 p = none ∧ F.hp p = none ∧ RDs K G1 xs us ∧ A p := fun j b xs q => by
    obtain ⟨hb, i, c, z1, z2⟩ := a2 j b xs q
    obtain ⟨p, us, h1, h2, h3, h4, h5, h6⟩ := R1.own i c xs z2
    obtain ⟨v, w1, w2⟩ := n1 j _ z1
    have w2 : vAt σ i v := w2
    cases h1.inj w2
    exact ⟨hb, i, c, p, us, z1, z2, h1, w1, h2, h3, h4, h5, i, c, xs, mem_bors.mpr ⟨j, z1⟩, z2, h1⟩
  have R2 : Rep K F' G1 H1 (vs.map some) (args.map some) := by
    refine ⟨R1.gh, fun b o q => (fp b o q).2.2, fun b o q => (fp b o q).1, by simp [l1, l2], fun j x q => ?_, fun j b xs q => ?_, fun i j p b c xs ys hij q1 q2 q3 q4 => ?_⟩
    · obtain ⟨v, w1, w2⟩ := n1 j _ (a1 j x (at_map.mp q))
      exact ⟨v, at_map.mpr w1, w2⟩
    · obtain ⟨hb, i, c, p, us, z1, z2, z3, z4, z5, z6, z7, z8, z9⟩ := slot j b xs (at_map.mp q)
      refine ⟨p, us, at_map.mpr z4, z5, z6, ?_, z8, fun _ => ?_⟩
      · show (if G1 p = none ∧ ¬ A p then H1 p else none) = none
        rw [if_neg (fun z => z.2 z9)]
      · show (match vs[j]? with | some (.ref p) => some p | _ => none) = some p
        rw [z4]
    · obtain ⟨_, i1, c1, p1, us1, z1, z2, z3, z4, _⟩ := slot i b xs (at_map.mp q1)
      obtain ⟨_, i2, c2, p2, us2, y1, y2, y3, y4, _⟩ := slot j c ys (at_map.mp q2)
      have e1 := at_map.mp q3
      have e2 := at_map.mp q4
      rw [z4] at e1; cases e1
      rw [y4] at e2; cases e2
      have hi : i1 ≠ i2 := fun z => hij (bors_uniq hnd z1 (z ▸ y1))
      exact R1.sep i1 i2 p c1 c2 _ _ hi z2 y2 z3 y3
  refine ⟨F', G1, args, _, as, R2, fun j b xs q => (slot j b xs q).1, e3, fun v G' H' s' R' q' => ?_⟩
  have own3 : ∀ i b ys, oAt ρ2 i b ys → ∃ p us, vAt σ i (.ref p) ∧ H' p = some (.lst us) ∧ G' p = none ∧ F.hp p = none ∧ RDs K G' ys us ∧ (b = true → F.par i = some p) ∧ (∃ xs, oAt ρ1 i b xs) ∧ ((∃ j c zs, as[j]? = some (SV.own c zs) ∧ vs[j]? = some (V.ref p)) ∨ F'.hp p ≠ none) := fun i b ys q => by
    rcases g1 i _ q with ⟨j, b', c, ys', xs, h1, h2, h3, h4⟩ | ⟨h1, h2⟩
    · cases h3
      obtain ⟨p, us, k1, k2, k3, k4, k5, k6⟩ := R1.own i _ xs h4
      obtain ⟨v', w1, w2⟩ := n1 j _ h1
      have w2 : vAt σ i v' := w2
      cases k1.inj w2
      obtain ⟨p', us', m1, m2, m3, m4, m5, m6⟩ := R'.own j c ys (at_map.mpr h2)
      have e := at_map.mp m1
      rw [w1] at e; cases e
      exact ⟨p, us', k1, m2, m3, k4, m5, k6, ⟨xs, h4⟩, .inl ⟨j, c, ys, h2, w1⟩⟩
    · obtain ⟨p, us, k1, k2, k3, k4, k5, k6⟩ := R1.own i b ys h2
      have nA : ¬ A p := by
        rintro ⟨i', b', xs', w1, w2, w3⟩
        have hi : i' ≠ i := fun z => h1 (z ▸ w1)
        exact R1.sep i' i p b' b xs' ys hi w2 h2 w3 k1
      have z := pf p _ k3 nA k2
      exact ⟨p, us, k1, R'.fh p _ z, R'.fg p _ z, k4, RDs.mono s' _ _ k5, k6, ⟨ys, h2⟩, .inr (by rw [z]; simp)⟩
  refine k v G' H' (s1.trans s') ⟨R'.gh, fun b o q => ?_, fun b o q => ?_, by rw [l3]; exact R1.len, fun i x q => ?_, fun i b ys q => ?_, fun i j p b c xs ys hij q1 q2 q3 q4 => ?_⟩ ?_
  · refine R'.fh b o (pf b o (R1.fg b o q) ?_ (R1.fh b o q))
    rintro ⟨i, c, xs, w1, w2, w3⟩
    obtain ⟨p, us, k1, k2, k3, k4, _⟩ := R1.own i c xs w2
    cases k1.inj w3
    rw [k4] at q; cases q
  · refine R'.fg b o (pf b o (R1.fg b o q) ?_ (R1.fh b o q))
    rintro ⟨i, c, xs, w1, w2, w3⟩
    obtain ⟨p, us, k1, k2, k3, k4, _⟩ := R1.own i c xs w2
    cases k1.inj w3
    rw [k4] at q; cases q
  · rcases g1 i _ q with ⟨j, b', c, ys', xs, h1, h2, h3, h4⟩ | ⟨h1, h2⟩
    · cases h3
    · obtain ⟨v, w1, w2⟩ := R1.dat i x h2
      exact ⟨v, w1, RD.mono s' _ _ w2⟩
  · obtain ⟨p, us, z1, z2, z3, z4, z5, z6, _⟩ := own3 i b ys q
    exact ⟨p, us, z1, z2, z3, z4, z5, z6⟩
  · obtain ⟨_, _, _, _, _, _, _, _, ⟨xs1, o1⟩, _⟩ := own3 i b xs q1
    obtain ⟨_, _, _, _, _, _, _, _, ⟨xs2, o2⟩, _⟩ := own3 j c ys q2
    exact R1.sep i j p b c xs1 xs2 hij o1 o2 q3 q4
  · cases r with
    | d x => exact q'
    | bor i =>
      exact (hnb i rfl).elim
    | own xs =>
      obtain ⟨q, us, rfl, h2, h3, h4, h5, h6⟩ := q'
      refine ⟨q, us, rfl, h2, h3, ?_, h5, fun i b ys o1 o2 => ?_⟩
      · cases z : F.hp q with
        | none => rfl
        | some o =>
          have nA : ¬ A q := by
            rintro ⟨i, c, xs, w1, w2, w3⟩
            obtain ⟨p, us, k1, k2, k3, k4, _⟩ := R1.own i c xs w2
            cases k1.inj w3
            rw [k4] at z; cases z
          rw [pf q o (R1.fg q o z) nA (R1.fh q o z)] at h4; cases h4
      · obtain ⟨p, us', z1, z2, z3, z4, z5, z6, z7, z8⟩ := own3 i b ys o1
        cases z1.inj o2
        rcases z8 with ⟨j, c, zs, y1, y2⟩ | z8
        · exact h6 j c zs (at_map.mpr y1) (at_map.mpr y2)
        · exact z8 h4
end M
namespace M
open PySem PySem.Spec PyProof.Rows L2
def iiD (C : Int → Int → Bool) (f : Int → Int → Int) : D → D → Option RV
  | .int i, .int j => if C i j then some (.d (.int (f i j))) else none
  | _, _ => none
theorem iiD_inv {C : Int → Int → Bool} {f : Int → Int → Int} {a b : D} {z : RV} (h : iiD C f a b = some z) : ∃ i j, a = .int i ∧ b = .int j ∧ C i j = true ∧ z = .d (.int (f i j)) := by
  unfold iiD at h
  split at h
  · split at h
    · cases h; exact ⟨_, _, rfl, rfl, by assumption, rfl⟩
    · cases h
  · cases h
theorem opd_ii {K : PySem.W.Frag} {C : Int → Int → Bool} {C' : Int → Int → Prop} {f : Int → Int → Int} (hC : ∀ i j, C i j = true → C' i j) : OpD K (rI C' fun i j => .int (f i j)) (iiD C f) := by
  intro G H x y dx dy z s hx hy e Q k
  obtain ⟨i, j, rfl, rfl, c, rfl⟩ := iiD_inv e
  exact ⟨i, j, hx.int, hy.int, hC i j c, k _ _ (.same rfl)⟩
theorem opd_ii0 {K : PySem.W.Frag} {f : Int → Int → Int} : OpD K (rI0 fun i j => .int (f i j)) (iiD (fun _ _ => true) f) := by
  intro G H x y dx dy z s hx hy e Q k
  obtain ⟨i, j, rfl, rfl, c, rfl⟩ := iiD_inv e
  exact ⟨i, j, hx.int, hy.int, k _ _ (.same rfl)⟩
def ibD (f : Int → Int → Bool) : D → D → Option RV
  | .int i, .int j => some (.d (.bl (f i j)))
  | _, _ => none
theorem opd_ib {K : PySem.W.Frag} {f : Int → Int → Bool} : OpD K (rI0 fun i j => .bl (f i j)) (ibD f) := by
  intro G H x y dx dy z s hx hy e Q k
  unfold ibD at e
  split at e
  · cases e
    exact ⟨_, _, hx.int, hy.int, k _ _ (.same rfl)⟩
  · cases e
def addS : D → D → Option RV
  | .str a, .str b => if a.length + b.length ≤ 16777216 then some (.d (.str (a ++ b))) else none
  | _, _ => none
theorem str_app (a b : List Nat) : (⟨a.toArray⟩ : Str) ++ (⟨b.toArray⟩ : Str) = ⟨(a ++ b).toArray⟩ := by
  show Str.append _ _ = _
  unfold Str.append
  simp
theorem opd_addS {K : PySem.W.Frag} : OpD K (fun x y H Q => ∃ i j, x = V.str i ∧ y = .str j ∧ i.length + j.length ≤ sizeLine ∧ Q (.str (i ++ j)) H) addS := by
  intro G H x y dx dy z s hx hy e Q k
  unfold addS at e
  split at e
  · split at e
    · rename_i a b hl
      cases e
      refine ⟨_, _, hx.str, hy.str, ?_, ?_⟩
      · rw [sizeLine_num]; simpa [Str.length] using hl
      · rw [str_app]; exact k _ _ (.same rfl)
    · cases e
  · cases e
def addL : D → D → Option RV
  | .lst a, .lst b => if a.length + b.length ≤ 16777216 then some (.own (a ++ b)) else none
  | _, _ => none
theorem opd_addL {K : PySem.W.Frag} : OpD K rCat addL := by
  intro G H x y dx dy z s hx hy e Q k
  unfold addL at e
  split at e
  · split at e
    · rename_i a b hl
      cases e
      obtain ⟨p, vs, e1, e2, e3⟩ := hx.lst s
      obtain ⟨q, us, f1, f2, f3⟩ := hy.lst s
      exact ⟨p, q, vs, us, e1, f1, e2, f2, by rw [sizeLine_num, e3.length, f3.length]; exact hl, fun l hl => k _ _ (.lst hl (e3.append f3))⟩
    · cases e
  · cases e
theorem RO.rdT {K : PySem.W.Frag} {G H : Hp} {ds : List D} {v : V} (h : RO K G H (.tup ds) v) : RD K G (.tup ds) v := by
  rcases h with h | ⟨ds', p, vs, h0, h1, h2, h3⟩
  · exact h
  · cases h0
def addT : D → D → Option RV
  | .tup a, .tup b => if a.length + b.length ≤ 16777216 then some (.d (.tup (a ++ b))) else none
  | _, _ => none
theorem opd_addT {K : PySem.W.Frag} : OpD K (rCatA K) addT := by
  intro G H x y dx dy z s hx hy e Q k
  unfold addT at e
  split at e
  · split at e
    · rename_i a b hl
      cases e
      obtain ⟨p, vs, e1, e2, e3⟩ := hx.tup s
      obtain ⟨q, us, f1, f2, f3⟩ := hy.tup s
      refine ⟨p, q, vs, us, e1, f1, e2, f2, by rw [sizeLine_num, e3.length, f3.length]; exact hl, fun z => ?_, fun _ z => ?_, fun _ _ l hl => k _ _ (.tup hl (e3.append f3))⟩
      · have : a = [] := by
          have := e3.length
          rw [z] at this
          exact List.eq_nil_of_length_eq_zero this.symm
        subst this
        rw [← f1]
        exact k _ _ (.same hy.rdT)
      · have : b = [] := by
          have := f3.length
          rw [z] at this
          exact List.eq_nil_of_length_eq_zero this.symm
        subst this
        rw [List.append_nil] at k
        rw [← e1]
        exact k _ _ (.same hx.rdT)
    · cases e
  · cases e
def addD : D → D → Option RV
  | .int i, .int j => some (.d (.int (i + j)))
  | .str a, .str b => if a.length + b.length ≤ 16777216 then some (.d (.str (a ++ b))) else none
  | .lst a, .lst b => if a.length + b.length ≤ 16777216 then some (.own (a ++ b)) else none
  | .tup a, .tup b => if a.length + b.length ≤ 16777216 then some (.d (.tup (a ++ b))) else none
  | _, _ => none
theorem OpD.of {K : PySem.W.Frag} {r : R2} {g g' : D → D → Option RV} (h : OpD K r g) (e : ∀ a b z, g' a b = some z → g a b = some z) : OpD K r g' := fun G H x y dx dy z s hx hy q Q k => h G H x y dx dy z s hx hy (e dx dy z q) Q k
theorem FnD.of {K : PySem.W.Frag} {r : List V → Hp → VK → Prop} {g g' : List D → Option RV} (h : FnD K r g) (e : ∀ a z, g' a = some z → g a = some z) : FnD K r g' := fun G H x dx z s hx q Q k => h G H x dx z s hx (e dx z q) Q k
section
variable {X : Cx} {a b : Expr} {fa fb : Ex} {pos : Pos}
theorem ev_add (ha : PEv X a fa) (hb : PEv X b fb) : PEv X (.BinOp a .Add b pos) (bOp addD fa fb) :=
  ev_op (OpR.or op_add (OpR.or op_add_str (OpR.or op_cat op_catA))) (OpD.of (OpD.or opd_ii0 (OpD.or opd_addS (OpD.or opd_addL opd_addT))) fun x y z h => by
    unfold addD at h
    split at h
    · cases h; rfl
    · exact (by unfold addS; simp only [iiD]; split at h <;> simp_all)
    · exact (by unfold addS addL; simp only [iiD]; split at h <;> simp_all)
    · exact (by unfold addS addL addT; simp only [iiD]; split at h <;> simp_all)
    · cases h) ha hb
def subD : D → D → Option RV := iiD (fun _ _ => true) fun i j => i - j
theorem ev_sub (ha : PEv X a fa) (hb : PEv X b fb) : PEv X (.BinOp a .Sub b pos) (bOp subD fa fb) := ev_op op_sub opd_ii0 ha hb
def mulC (i j : Int) : Bool := decide ((-(2 ^ 64) < i ∧ i < 2 ^ 64) ∨ (-(2 ^ 64) < j ∧ j < 2 ^ 64))
def mulD : D → D → Option RV := iiD mulC fun i j => i * j
theorem ev_mul (ha : PEv X a fa) (hb : PEv X b fb) : PEv X (.BinOp a .Mult b pos) (bOp mulD fa fb) := ev_op op_mul (opd_ii fun i j h => by unfold mulC at h; have h1 := of_decide_eq_true h; exact h1) ha hb
def fdivC (i j : Int) : Bool := decide (0 < j ∧ j < 1073741824)
def fdivD : D → D → Option RV := iiD fdivC fun i j => i / j
theorem ev_fdiv (ha : PEv X a fa) (hb : PEv X b fb) : PEv X (.BinOp a .FloorDiv b pos) (bOp fdivD fa fb) := ev_op op_fdiv (opd_ii fun i j h => by unfold fdivC at h; have h1 := of_decide_eq_true h; exact h1) ha hb
def modC (i j : Int) : Bool := decide (0 < j)
def modD : D → D → Option RV := iiD modC fun i j => i % j
theorem ev_mod (ha : PEv X a fa) (hb : PEv X b fb) : PEv X (.BinOp a .Mod b pos) (bOp modD fa fb) := ev_op op_mod (opd_ii fun i j h => of_decide_eq_true h) ha hb
def powC (i j : Int) : Bool := decide (0 ≤ j ∧ j ≤ 1000000 ∧ i.natAbs < 2 ^ 64)
def powD : D → D → Option RV := iiD powC fun i j => i ^ j.toNat
theorem ev_pow (ha : PEv X a fa) (hb : PEv X b fb) : PEv X (.BinOp a .Pow b pos) (bOp powD fa fb) := ev_op op_pow (opd_ii fun i j h => by unfold powC at h; have h1 := of_decide_eq_true h; exact h1) ha hb
def negD : D → Option RV
  | .int i => some (.d (.int (-i)))
  | _ => none
theorem ev_neg (ha : PEv X a fa) : PEv X (.UnaryOp .USub a pos) (bUn negD fa) := ev_un un_neg (fun G H x dx z s hx e Q k => by
  unfold negD at e
  split at e
  · cases e; exact ⟨_, hx.int, k _ _ (.same rfl)⟩
  · cases e) ha
end
def ltD : D → D → Option RV := ibD fun i j => decide (i < j)
def leD : D → D → Option RV := ibD fun i j => decide (i ≤ j)
def gtD : D → D → Option RV := ibD fun i j => decide (j < i)
def geD : D → D → Option RV := ibD fun i j => decide (j ≤ i)
mutual
def D.py : D → PyData
  | .non => .none
  | .bl b => .bool b
  | .int i => .int i
  | .str s => .str ⟨s.toArray⟩
  | .lst xs => .list (pys xs)
  | .tup xs => .tuple (pys xs)
  | .scr xs => .list (pys xs)
  | .ins _ _ _ => .none
  | .ptr _ => .none
  | .exn _ _ _ _ => .none
  | .dct _ _ => .none
def pys : List D → List PyData
  | [] => []
  | x :: xs => D.py x :: pys xs
end
mutual
def D.ok : D → Bool
  | .non => true
  | .bl _ => true
  | .int _ => true
  | .str s => s.all (· < 1114112)
  | .lst xs => oks xs
  | .tup xs => oks xs
  | .scr xs => oks xs
  | .ins _ _ _ => false
  | .ptr _ => false
  | .exn _ _ _ _ => false
  | .dct _ _ => false
def oks : List D → Bool
  | [] => true
  | x :: xs => D.ok x && oks xs
end
mutual
def D.dep : D → Nat
  | .lst xs => deps xs + 1
  | .tup xs => deps xs + 1
  | .scr xs => deps xs + 1
  | _ => 0
def deps : List D → Nat
  | [] => 0
  | x :: xs => max (D.dep x) (deps xs)
end
def okD (d : D) : Bool := d.ok && decide (d.dep ≤ 64)
mutual
theorem py_lay : ∀ d : D, d.ok = true → d.py.canLay0 = true
  | .non, _ => rfl
  | .bl _, _ => rfl
  | .int _, _ => rfl
  | .str s, h => by
    show PyData.strOk _ = true
    unfold PyData.strOk
    simpa [D.ok] using h
  | .lst xs, h => pys_lay xs h
  | .tup xs, h => pys_lay xs h
  | .scr xs, h => pys_lay xs h
  | .ins _ _ _, h => by cases h
  | .ptr _, h => by cases h
  | .exn _ _ _ _, h => by cases h
  | .dct _ _, h => by cases h
theorem pys_lay : ∀ ds : List D, oks ds = true → PyData.canLayAll0 (pys ds) = true
  | [], _ => rfl
  | x :: xs, h => by
    have h' : x.ok = true ∧ oks xs = true := by simpa [oks] using h
    show (x.py.canLay0 && PyData.canLayAll0 (pys xs)) = true
    rw [py_lay x h'.1, pys_lay xs h'.2]; rfl
end
mutual
theorem py_dep : ∀ d : D, d.py.depth = d.dep
  | .non => rfl
  | .bl _ => rfl
  | .int _ => rfl
  | .str s => rfl
  | .lst xs => congrArg (· + 1) (pys_dep xs)
  | .tup xs => congrArg (· + 1) (pys_dep xs)
  | .scr xs => congrArg (· + 1) (pys_dep xs)
  | .ins _ _ _ => rfl
  | .ptr _ => rfl
  | .exn _ _ _ _ => rfl
  | .dct _ _ => rfl
theorem pys_dep : ∀ ds : List D, PyData.depthAll (pys ds) = deps ds
  | [] => rfl
  | x :: xs => by
    show max x.py.depth (PyData.depthAll (pys xs)) = max x.dep (deps xs)
    rw [py_dep x, pys_dep xs]
end
theorem okD_shaped {d : D} (h : okD d = true) : SeqAt.shaped d.py = true := by
  unfold okD at h
  simp only [Bool.and_eq_true, decide_eq_true_eq] at h
  unfold SeqAt.shaped
  rw [py_lay d h.1, py_dep, decide_eq_true h.2]; rfl
mutual
theorem rd_dp {K : PySem.W.Frag} {H : Hp} : ∀ (d : D) (v : V), d.ok = true → RD K H d v → Dp K H v d.py
  | .non, v, _, h => by cases h; exact .non
  | .bl b, v, _, h => by cases h; exact .bl b
  | .int i, v, _, h => by cases h; exact .int i
  | .str s, v, _, h => by cases h; exact .str _
  | .lst ds, v, o, ⟨a, xs, e1, e2, e3⟩ => by subst e1; exact .lst (SqL.of e2) (rds_dp ds xs o e3)
  | .tup ds, v, o, ⟨a, xs, e1, e2, e3⟩ => by subst e1; exact .tup e2 (rds_dp ds xs o e3)
  | .scr ds, v, o, ⟨a, xs, e1, e2, e3⟩ => by subst e1; exact .lst e2 (rds_dp ds xs o e3)
  | .ins C ns ds, v, o, _ => by cases o
  | .ptr u, v, o, _ => by cases o
  | .exn _ _ _ _, v, o, _ => by cases o
  | .dct _ _, v, o, _ => by cases o
theorem rds_dp {K : PySem.W.Frag} {H : Hp} : ∀ (ds : List D) (vs : List V), oks ds = true → RDs K H ds vs → DpAll K H vs (pys ds)
  | [], vs, _, h => by cases h; exact .nil
  | d :: ds, vs, o, ⟨x, xs, e1, e2, e3⟩ => by
    have o' : d.ok = true ∧ oks ds = true := by simpa [oks] using o
    subst e1
    exact .cons (rd_dp d x o'.1 e2) (rds_dp ds xs o'.2 e3)
end
def eqB : D → D → Option Bool
  | .non, .non => some true
  | .int i, .int j => some (decide (i = j))
  | .str a, .str b => some (decide (a = b))
  | .bl a, .bl b => some (decide (a = b))
  | .non, .str _ => some false
  | .str _, .non => some false
  | .lst a, .lst b => if okD (.lst a) && okD (.lst b) then some (PyData.eqv (D.lst a).py (D.lst b).py) else none
  | .tup a, .tup b => if okD (.tup a) && okD (.tup b) then some (PyData.eqv (D.tup a).py (D.tup b).py) else none
  | _, _ => none
def eqD (a b : D) : Option RV := (eqB a b).map fun c => .d (.bl c)
def neD (a b : D) : Option RV := (eqB a b).map fun c => .d (.bl (!c))
theorem str_dec (a b : List Nat) : decide ((V.str ⟨a.toArray⟩) = V.str ⟨b.toArray⟩) = decide (a = b) := by
  by_cases h : a = b
  · subst h; simp
  · rw [decide_eq_false h, decide_eq_false]
    intro z
    injection z with z
    injection z with z
    exact h (by simpa using z)
theorem eq_core {K : PySem.W.Frag} {G H : Hp} {x y : V} {dx dy : D} {c : Bool} (s : Same G H) (hx : RO K G H dx x) (hy : RO K G H dy y) (e : eqB dx dy = some c) :
    (scal x y = true ∧ decide (x = y) = c) ∨ (∃ d e, Dp K H x d ∧ Dp K H y e ∧ SeqAt.shaped d = true ∧ SeqAt.shaped e = true ∧ PyData.eqv d e = c) := by
  unfold eqB at e
  split at e
  · cases e; rw [hx.non, hy.non]; exact .inl ⟨rfl, rfl⟩
  · cases e; rw [hx.int, hy.int]; exact .inl ⟨rfl, by simp⟩
  · cases e; rw [hx.str, hy.str]; exact .inl ⟨rfl, str_dec _ _⟩
  · cases e; rw [hx.bl, hy.bl]; exact .inl ⟨rfl, by simp⟩
  · cases e; rw [hx.non, hy.str]; exact .inl ⟨rfl, rfl⟩
  · cases e; rw [hx.str, hy.non]; exact .inl ⟨rfl, rfl⟩
  · split at e
    · rename_i h
      cases e
      simp only [Bool.and_eq_true] at h
      have o1 := h.1
      have o2 := h.2
      unfold okD at o1 o2
      simp only [Bool.and_eq_true] at o1 o2
      exact .inr ⟨_, _, rd_dp _ _ o1.1 (hx.rd s), rd_dp _ _ o2.1 (hy.rd s), okD_shaped h.1, okD_shaped h.2, rfl⟩
    · cases e
  · split at e
    · rename_i h
      cases e
      simp only [Bool.and_eq_true] at h
      have o1 := h.1
      have o2 := h.2
      unfold okD at o1 o2
      simp only [Bool.and_eq_true] at o1 o2
      exact .inr ⟨_, _, rd_dp _ _ o1.1 (hx.rd s), rd_dp _ _ o2.1 (hy.rd s), okD_shaped h.1, okD_shaped h.2, rfl⟩
    · cases e
  · cases e
theorem opd_eq {K : PySem.W.Frag} : OpD K (fun x y H Q => rEq x y H Q ∨ rEqD K x y H Q) eqD := by
  intro G H x y dx dy z s hx hy e Q k
  obtain ⟨c, e1, e2⟩ := Option.map_eq_some_iff.mp e
  subst e2
  rcases eq_core s hx hy e1 with ⟨h1, h2⟩ | ⟨d, e, h1, h2, h3, h4, h5⟩
  · exact .inl ⟨h1, by rw [h2]; exact k _ _ (.same rfl)⟩
  · exact .inr ⟨d, e, h1, h2, h3, h4, by rw [h5]; exact k _ _ (.same rfl)⟩
theorem opd_ne {K : PySem.W.Frag} : OpD K (fun x y H Q => rNe x y H Q ∨ rNeD K x y H Q) neD := by
  intro G H x y dx dy z s hx hy e Q k
  obtain ⟨c, e1, e2⟩ := Option.map_eq_some_iff.mp e
  subst e2
  rcases eq_core s hx hy e1 with ⟨h1, h2⟩ | ⟨d, e, h1, h2, h3, h4, h5⟩
  · exact .inl ⟨h1, by rw [h2]; exact k _ _ (.same rfl)⟩
  · exact .inr ⟨d, e, h1, h2, h3, h4, by rw [h5]; exact k _ _ (.same rfl)⟩
def isB : D → D → Option Bool
  | .non, .non => some true
  | .bl a, .bl b => some (decide (a = b))
  | .int _, .non => some false
  | .str _, .non => some false
  | .bl _, .non => some false
  | .lst _, .non => some false
  | .tup _, .non => some false
  | .ins _ _ _, .non => some false
  | .dct _ _, .non => some false
  | _, _ => none
def isD (a b : D) : Option RV := (isB a b).map fun c => .d (.bl c)
def isnD (a b : D) : Option RV := (isB a b).map fun c => .d (.bl (!c))
def rIsX : R2 := fun x y H Q => (y = .non ∧ Q (.bl (decide (x = .non))) H) ∨ (∃ a b : Bool, x = .bl a ∧ y = .bl b ∧ Q (.bl (decide (a = b))) H)
theorem is_core {K : PySem.W.Frag} {G H : Hp} {x y : V} {dx dy : D} {c : Bool} (s : Same G H) (hx : RO K G H dx x) (hy : RO K G H dy y) (e : isB dx dy = some c) :
    (y = .non ∧ decide (x = .non) = c) ∨ (∃ a b : Bool, x = .bl a ∧ y = .bl b ∧ decide (a = b) = c) := by
  unfold isB at e
  split at e
  · cases e; exact .inl ⟨hy.non, by rw [hx.non]; rfl⟩
  · cases e; exact .inr ⟨_, _, hx.bl, hy.bl, rfl⟩
  · cases e; exact .inl ⟨hy.non, by rw [hx.int]; rfl⟩
  · cases e; exact .inl ⟨hy.non, by rw [hx.str]; rfl⟩
  · cases e; exact .inl ⟨hy.non, by rw [hx.bl]; rfl⟩
  · cases e
    obtain ⟨p, vs, e1, _⟩ := hx.lst s
    exact .inl ⟨hy.non, by rw [e1]; rfl⟩
  · cases e
    obtain ⟨p, vs, e1, _⟩ := hx.tup s
    exact .inl ⟨hy.non, by rw [e1]; rfl⟩
  · cases e
    obtain ⟨a, C, dx, fs, e1, _⟩ := hx.rd s
    exact .inl ⟨hy.non, by rw [e1]; rfl⟩
  · cases e
    obtain ⟨p, kvs, e1, _⟩ := hx.dct s
    exact .inl ⟨hy.non, by rw [e1]; rfl⟩
  · cases e
end M
namespace M
open PySem PySem.Spec PyProof.Rows L2
section
variable {X : Cx} {a b c e : Expr} {es : List Expr} {fa fb fc : Ex} {fs : Ax} {pos : Pos}
def rIsOr : R2 := fun x y H Q => (y = .non ∧ Q (.bl (decide (x = .non))) H) ∨ rIsB x y H Q
def rIsnOr : R2 := fun x y H Q => (y = .non ∧ Q (.bl (!decide (x = .non))) H) ∨ rNotB x y H Q
theorem opd_is {K : PySem.W.Frag} : OpD K rIsOr isD := by
  intro G H x y dx dy z s hx hy e Q k
  obtain ⟨c, e1, e2⟩ := Option.map_eq_some_iff.mp e
  subst e2
  rcases is_core s hx hy e1 with ⟨h1, h2⟩ | ⟨a, b, h1, h2, h3⟩
  · exact .inl ⟨h1, by rw [h2]; exact k _ _ (.same rfl)⟩
  · exact .inr ⟨a, b, h1, h2, by rw [h3]; exact k _ _ (.same rfl)⟩
theorem opd_isn {K : PySem.W.Frag} : OpD K rIsnOr isnD := by
  intro G H x y dx dy z s hx hy e Q k
  obtain ⟨c, e1, e2⟩ := Option.map_eq_some_iff.mp e
  subst e2
  rcases is_core s hx hy e1 with ⟨h1, h2⟩ | ⟨a, b, h1, h2, h3⟩
  · exact .inl ⟨h1, by rw [h2]; exact k _ _ (.same rfl)⟩
  · exact .inr ⟨a, b, h1, h2, by rw [h3]; exact k _ _ (.same rfl)⟩
theorem op_isX : OpR X (compareOp .Is) rIsOr := OpR.or op_isN op_isBl
theorem op_isnX : OpR X (compareOp .IsNot) rIsnOr := OpR.or op_notN op_notBl
def flatD : D → Bool
  | .non => true
  | .bl _ => true
  | .int _ => true
  | .str _ => true
  | _ => false
def toV : D → V
  | .non => .non
  | .bl b => .bl b
  | .int i => .int i
  | .str s => .str ⟨s.toArray⟩
  | _ => .non
theorem rd_flat {K : PySem.W.Frag} {H : Hp} {d : D} {v : V} (h : flatD d = true) (r : RD K H d v) : v = toV d ∧ flatV v = true := by
  cases d with
  | non => cases r; exact ⟨rfl, rfl⟩
  | bl b => cases r; exact ⟨rfl, rfl⟩
  | int i => cases r; exact ⟨rfl, rfl⟩
  | str s => cases r; exact ⟨rfl, rfl⟩
  | _ => cases h
theorem rds_flat {K : PySem.W.Frag} {H : Hp} : ∀ {ds : List D} {vs : List V}, ds.all flatD = true → RDs K H ds vs → vs = ds.map toV ∧ vs.all flatV = true
  | [], vs, _, h => by cases h; exact ⟨rfl, rfl⟩
  | d :: ds, vs, h, ⟨x, xs, e1, e2, e3⟩ => by
    have h' : flatD d = true ∧ ds.all flatD = true := by simpa using h
    obtain ⟨g1, g2⟩ := rd_flat h'.1 e2
    obtain ⟨g3, g4⟩ := rds_flat h'.2 e3
    subst e1
    exact ⟨by rw [g1, g3]; rfl, by simp [g2, g4]⟩
def memB (x : D) (xs : List D) : Bool := inV (toV x) (xs.map toV)
def inB : D → D → Option Bool
  | .str [c], .str s => some (decide (c ∈ s))
  | x, .tup xs => if flatD x && xs.all flatD then some (memB x xs) else none
  | x, .lst xs => if flatD x && xs.all flatD then some (memB x xs) else none
  | _, _ => none
def inD (a b : D) : Option RV := (inB a b).map fun c => .d (.bl c)
def ninD (a b : D) : Option RV := (inB a b).map fun c => .d (.bl (!c))
theorem in_core {K : PySem.W.Frag} {G H : Hp} {x y : V} {dx dy : D} {k : Bool} (s : Same G H) (hx : RO K G H dx x) (hy : RO K G H dy y) (e : inB dx dy = some k) :
    (∃ (c : Nat) (z : Str), x = .str ⟨#[c]⟩ ∧ y = .str z ∧ decide (c ∈ z.cps.toList) = k) ∨ (∃ p xs, y = .ref p ∧ (SqL K H p xs ∨ SqT K H p xs) ∧ flatV x = true ∧ xs.all flatV = true ∧ inV x xs = k) := by
  unfold inB at e
  split at e
  · rename_i c s'
    cases e
    exact .inl ⟨c, ⟨s'.toArray⟩, hx.str, hy.str, by simp⟩
  · split at e
    · rename_i xs h
      cases e
      simp only [Bool.and_eq_true] at h
      obtain ⟨p, vs, e1, e2, e3⟩ := hy.tup s
      obtain ⟨g1, g2⟩ := rd_flat h.1 (hx.rd s)
      obtain ⟨g3, g4⟩ := rds_flat h.2 e3
      exact .inr ⟨p, vs, e1, .inr e2, g2, g4, by rw [g1, g3]; rfl⟩
    · cases e
  · split at e
    · rename_i xs h
      cases e
      simp only [Bool.and_eq_true] at h
      obtain ⟨p, vs, e1, e2, e3⟩ := hy.lst s
      obtain ⟨g1, g2⟩ := rd_flat h.1 (hx.rd s)
      obtain ⟨g3, g4⟩ := rds_flat h.2 e3
      exact .inr ⟨p, vs, e1, .inl (SqL.of e2), g2, g4, by rw [g1, g3]; rfl⟩
    · cases e
  · cases e
theorem opd_in {K : PySem.W.Frag} : OpD K (fun x y H Q => (∃ (c : Nat) (z : Str), x = .str ⟨#[c]⟩ ∧ y = .str z ∧ Q (.bl (decide (c ∈ z.cps.toList))) H) ∨ rIn K false x y H Q) inD := by
  intro G H x y dx dy z s hx hy e Q k
  obtain ⟨c, e1, e2⟩ := Option.map_eq_some_iff.mp e
  subst e2
  rcases in_core s hx hy e1 with ⟨c', z, h1, h2, h3⟩ | ⟨p, xs, h1, h2, h3, h4, h5⟩
  · exact .inl ⟨c', z, h1, h2, by rw [h3]; exact k _ _ (.same rfl)⟩
  · exact .inr ⟨p, xs, h1, h2, h3, h4, by rw [h5]; exact k _ _ (.same rfl)⟩
theorem opd_nin {K : PySem.W.Frag} : OpD K (fun x y H Q => (∃ (c : Nat) (z : Str), x = .str ⟨#[c]⟩ ∧ y = .str z ∧ Q (.bl (!decide (c ∈ z.cps.toList))) H) ∨ rIn K true x y H Q) ninD := by
  intro G H x y dx dy z s hx hy e Q k
  obtain ⟨c, e1, e2⟩ := Option.map_eq_some_iff.mp e
  subst e2
  rcases in_core s hx hy e1 with ⟨c', z, h1, h2, h3⟩ | ⟨p, xs, h1, h2, h3, h4, h5⟩
  · exact .inl ⟨c', z, h1, h2, by rw [h3]; exact k _ _ (.same rfl)⟩
  · exact .inr ⟨p, xs, h1, h2, h3, h4, by rw [h5]; exact k _ _ (.same rfl)⟩
theorem op_inX : OpR X (compareOp .In) (fun x y H Q => (∃ (c : Nat) (z : Str), x = .str ⟨#[c]⟩ ∧ y = .str z ∧ Q (.bl (decide (c ∈ z.cps.toList))) H) ∨ rIn X.K false x y H Q) := OpR.or op_in_sign op_in_seq
theorem op_ninX : OpR X (compareOp .NotIn) (fun x y H Q => (∃ (c : Nat) (z : Str), x = .str ⟨#[c]⟩ ∧ y = .str z ∧ Q (.bl (!decide (c ∈ z.cps.toList))) H) ∨ rIn X.K true x y H Q) := OpR.or op_notIn_sign op_notIn_seq
theorem op_eqX (hu : X.A.units + 64 < cLine) : OpR X (compareOp .Eq) (fun x y H Q => rEq x y H Q ∨ rEqD X.K x y H Q) := OpR.or op_eq (op_eqD hu)
theorem op_neX (hu : X.A.units + 64 < cLine) : OpR X (compareOp .NotEq) (fun x y H Q => rNe x y H Q ∨ rNeD X.K x y H Q) := OpR.or op_ne (op_neD hu)
def bChain (g g' : D → D → Option RV) (fa fb fc : Ex) : Ex := fun ρ => match fa ρ with
  | some (.d x, ρ1) => match fb ρ1 with
    | some (.d y, ρ2) => match g x y with
      | some (.d (.bl true)) => match fc ρ2 with
        | some (.d z, ρ3) => (g' y z).map fun r => (r, ρ3)
        | _ => none
      | some (.d (.bl false)) => some (.d (.bl false), ρ2)
      | _ => none
    | _ => none
  | _ => none
theorem read_chain {K : PySem.W.Frag} {g g' : D → D → Option RV} {r r' : R2} (hg : OpD K r g) (hg' : OpD K r' g') {σ : Sg} {H : Hp} {Q : VK} (h : tE K (bChain g g' fa fb fc) σ H Q) : tChain r r' (tE K fa) (tE K fb) (tE K fc) σ H Q := by
  obtain ⟨F, G, ρ, z, ρ', R, e, k⟩ := h
  unfold bChain at e
  split at e
  rotate_left
  · cases e
  rename_i dx ρ1 e1
  split at e
  rotate_left
  · cases e
  rename_i dy ρ2 e2
  refine ⟨F, G, ρ, _, ρ1, R, e1, fun x G1 H1 s1 R1 q1 => ⟨F, G1, ρ1, _, ρ2, R1, e2, fun y G2 H2 s2 R2 q2 => ?_⟩⟩
  have rx : RO K G2 H2 dx x := .inl (RD.mono s2 _ _ q1)
  have ry : RO K G2 H2 dy y := .inl q2
  split at e
  · rename_i e3
    refine hg G2 H2 x y dx dy _ R2.gh rx ry e3 _ fun v H3 hz => ?_
    cases hz with
    | same hv =>
      refine ⟨true, hv, iteT ?_⟩
      split at e
      rotate_left
      · cases e
      rename_i dz ρ3 e4
      obtain ⟨z', ez, eq⟩ := Option.map_eq_some_iff.mp e
      cases eq
      refine ⟨F, G2, ρ2, _, _, R2, e4, fun w G4 H4 s4 R4 q4 => ?_⟩
      refine hg' G4 H4 y w dy dz _ R4.gh (.inl (RD.mono s4 _ _ q2)) (.inl q4) ez Q fun u H5 hz => ?_
      obtain ⟨G5, t5, R5, q5⟩ := rz_done R4 hz
      exact k u G5 H5 (((s1.trans s2).trans s4).trans t5) R5 q5
  · rename_i e3
    cases e
    refine hg G2 H2 x y dx dy _ R2.gh rx ry e3 _ fun v H3 hz => ?_
    cases hz with
    | same hv => exact ⟨false, hv, iteF (k _ G2 H2 (s1.trans s2) R2 rfl)⟩
  · cases e
theorem ev_chain {op op' : CmpOp} {r r' : R2} {g g' : D → D → Option RV} (ho : OpR X (compareOp op) r) (ho' : OpR X (compareOp op') r') (hg : OpD X.K r g) (hg' : OpD X.K r' g') (ha : PEv X a fa) (hb : PEv X b fb) (hc : PEv X c fc)
    (hm : lastMarks [op, op'] [b, c] = false := by with_unfolding_all rfl) : PEv X (.Compare a [op, op'] [b, c] pos) (bChain g g' fa fb fc) := PE.imp (pe_chain ho ho' ha hb hc hm) fun σ H Q h => read_chain hg hg' h
theorem tv_chain {op op' : CmpOp} {r r' : R2} {g g' : D → D → Option RV} (ho : OpR X (compareOp op) r) (ho' : OpR X (compareOp op') r') (hg : OpD X.K r g) (hg' : OpD X.K r' g') (ha : PEv X a fa) (hb : PEv X b fb) (hc : PEv X c fc)
    (hm : lastMarks [op, op'] [b, c] = false := by with_unfolding_all rfl) : PTv X (.Compare a [op, op'] [b, c] pos) (bT (bChain g g' fa fb fc)) := PT.imp (pt_chain ho ho' ha hb hc hm) fun σ H Q h => by
  exact read_chain hg hg' (Q := fun x H1 => ∃ c, x = .bl c ∧ Q c H1) (readT h)
def ixD : D → D → Option RV
  | .lst xs, .int i => (atI xs i).map .d
  | .tup xs, .int i => (atI xs i).map .d
  | .scr xs, .int i => (atI xs i).map .d
  | .str s, .int i => if s.length ≤ 16777216 then (atI s i).map fun c => .d (.str [c]) else none
  | _, _ => none
theorem atI_rds {K : PySem.W.Frag} {G : Hp} {ds : List D} {vs : List V} {i : Int} {d : D} (h : RDs K G ds vs) (e : atI ds i = some d) : ∃ v, atI vs i = some v ∧ RD K G d v := by
  unfold atI at *
  obtain ⟨j, h1, h2⟩ := Option.bind_eq_some_iff.mp e
  obtain ⟨v, h3, h4⟩ := h.get h2
  exact ⟨v, Option.bind_eq_some_iff.mpr ⟨j, by rw [h.length]; exact h1, h3⟩, h4⟩
theorem opd_ix {K : PySem.W.Frag} : OpD K (rIx K) ixD := by
  intro G H x y dx dy z s hx hy e Q k
  unfold ixD at e
  split at e
  · obtain ⟨d, e1, e2⟩ := Option.map_eq_some_iff.mp e
    subst e2
    obtain ⟨p, vs, f1, f2, f3⟩ := hx.lst s
    obtain ⟨v, g1, g2⟩ := atI_rds f3 e1
    exact .inl ⟨p, vs, _, v, f1, hy.int, SqL.of f2, g1, k _ _ (.same g2)⟩
  · obtain ⟨d, e1, e2⟩ := Option.map_eq_some_iff.mp e
    subst e2
    obtain ⟨p, vs, f1, f2, f3⟩ := hx.tup s
    obtain ⟨v, g1, g2⟩ := atI_rds f3 e1
    exact .inr (.inl ⟨p, vs, _, v, f1, hy.int, f2, g1, k _ _ (.same g2)⟩)
  · obtain ⟨d, e1, e2⟩ := Option.map_eq_some_iff.mp e
    subst e2
    obtain ⟨p, vs, f1, f2, f3⟩ := hx.scr s
    obtain ⟨v, g1, g2⟩ := atI_rds f3 e1
    exact .inl ⟨p, vs, _, v, f1, hy.int, f2, g1, k _ _ (.same g2)⟩
  · split at e
    rotate_left
    · cases e
    rename_i hl
    obtain ⟨c, e1, e2⟩ := Option.map_eq_some_iff.mp e
    subst e2
    exact .inr (.inr ⟨_, _, c, hx.str, hy.int, by rw [sizeLine_num]; simpa [Str.length] using hl, e1, k _ _ (.same rfl)⟩)
  · cases e
theorem ev_item (hs : PlainIx b) (ha : PEv X a fa) (hb : PEv X b fb) : PEv X (.Subscript a b pos) (bOp ixD fa fb) := ev_ix ix_seq opd_ix hs ha hb
abbrev Ox := Sl → Option (Option Int × Sl)
def oNone : Ox := fun ρ => some (none, ρ)
def oSome (f : Ex) : Ox := fun ρ => match f ρ with
  | some (.d (.int i), ρ1) => some (some i, ρ1)
  | _ => none
def tOx (K : PySem.W.Frag) (f : Ox) : TO := fun σ H Q => ∃ F G ρ r ρ', Rep K F G H σ ρ ∧ f ρ = some (r, ρ') ∧ ∀ G' H', Same G G' → Rep K F G' H' σ ρ' → Q r H'
def POv (X : Cx) (e : Option Expr) (f : Ox) : Prop := PO X e (tOx X.K f)
theorem ov_none : POv X none oNone := ⟨fun pins s σ H Q I h => by
  obtain ⟨F, G, ρ, r, ρ', R, e, k⟩ := h
  cases e
  exact po_none.run pins s σ H Q I (k G H (Same.refl G) R)⟩
theorem ov_some (h : PEv X e fa) : POv X (some e) (oSome fa) := ⟨fun pins s σ H Q I hw => by
  obtain ⟨F, G, ρ, r, ρ', R, q, k⟩ := hw
  unfold oSome at q
  split at q
  · rename_i i ρ1 e1
    cases q
    exact (po_some h).run pins s σ H Q I ⟨F, G, ρ, _, _, R, e1, fun v G1 H1 s1 R1 q1 => ⟨i, q1, k G1 H1 s1 R1⟩⟩
  · cases q⟩
def cutL {α : Type} (xs : List α) (lo hi : Option Int) : List α := (xs.drop (HT.sIx xs.length 0 lo)).take (HT.sIx xs.length xs.length hi - HT.sIx xs.length 0 lo)
def slD (x : D) (lo hi : Option Int) : Option RV := match x with
  | .lst xs => some (.own (cutL xs lo hi))
  | .scr xs => some (.own (cutL xs lo hi))
  | .tup xs => some (.d (.tup (cutL xs lo hi)))
  | .str s => if s.length ≤ 16777216 then some (.d (.str (cutL s lo hi))) else none
  | _ => none
def bSl (fa : Ex) (fl fh : Ox) : Ex := fun ρ => match fa ρ with
  | none => none
  | some (ra, ρ1) => match fl ρ1 with
    | none => none
    | some (lo, ρ2) => match fh ρ2 with
      | none => none
      | some (hi, ρ3) => match pk ρ3 ra.nrm with
        | none => none
        | some x => (slD x lo hi).map fun z => (z, ρ3)
theorem cut_rds {K : PySem.W.Frag} {G : Hp} {ds : List D} {vs : List V} (h : RDs K G ds vs) (lo hi : Option Int) : RDs K G (cutL ds lo hi) (cutV vs lo hi) := by
  unfold cutL cutV
  rw [h.length]
  exact (h.drop _).take _
def rSlX2 (K : PySem.W.Frag) : V → Option Int → Option Int → Hp → VK → Prop := fun x lo hi H Q => rSlL K x lo hi H Q ∨ (rSlA K x lo hi H Q ∨ rSlS x lo hi H Q)
theorem sl_all : SlR X (rSlX2 X.K) := SlR.or sl_list (SlR.or sl_tupA sl_str)
theorem sld {K : PySem.W.Frag} {G H : Hp} {x : V} {dx : D} {lo hi : Option Int} {z : RV} (s : Same G H) (hx : RO K G H dx x) (e : slD dx lo hi = some z) (Q : VK) (k : ∀ v H', RZ K G H z v H' → Q v H') : rSlX2 K x lo hi H Q := by
  unfold slD at e
  split at e
  · cases e
    obtain ⟨p, vs, f1, f2, f3⟩ := hx.lst s
    exact .inl ⟨p, vs, f1, SqL.of f2, fun q hq => k _ _ (.lst hq (cut_rds f3 lo hi))⟩
  · cases e
    obtain ⟨p, vs, f1, f2, f3⟩ := hx.scr s
    exact .inl ⟨p, vs, f1, f2, fun q hq => k _ _ (.lst hq (cut_rds f3 lo hi))⟩
  · cases e
    rename_i xs
    obtain ⟨p, vs, f1, f2, f3⟩ := hx.tup s
    refine .inr (.inl ⟨p, vs, f1, f2, fun hz => ?_, fun _ q hq => k _ _ (.tup hq (cut_rds f3 lo hi))⟩)
    have : cutL xs lo hi = xs := by
      unfold cutL
      rw [f3.length] at hz
      rw [hz.1, hz.2]; simp
    rw [this] at k
    rw [← f1]
    exact k _ _ (.same hx.rdT)
  · split at e
    rotate_left
    · cases e
    rename_i s' hl
    cases e
    refine .inr (.inr ⟨_, hx.str, by rw [sizeLine_num]; simpa [Str.length] using hl, ?_⟩)
    have : cutS ⟨s'.toArray⟩ lo hi = ⟨(cutL s' lo hi).toArray⟩ := by
      unfold cutS cutL
      simp [Str.length]
    rw [this]
    exact k _ _ (.same rfl)
  · cases e
theorem ev_slice {lo hi : Option Expr} {p2 : Pos} {fl fh : Ox} (ha : PEv X a fa) (hl : POv X lo fl) (hh : POv X hi fh) : PEv X (.Subscript a (.Slice lo hi none p2) pos) (bSl fa fl fh) := PE.imp (pe_slice sl_all ha hl hh) fun σ H Q h => by
  obtain ⟨F, G, ρ, r, ρ', R, q, k⟩ := h
  unfold bSl at q
  split at q
  · cases q
  rename_i ra ρ1 e1
  split at q
  · cases q
  rename_i lo' ρ2 e2
  split at q
  · cases q
  rename_i hi' ρ3 e3
  split at q
  · cases q
  rename_i x e4
  obtain ⟨z, ez, eq⟩ := Option.map_eq_some_iff.mp q
  cases eq
  refine ⟨F, G, ρ, ra, ρ1, R, e1, fun v G1 H1 s1 R1 q1 => ?_⟩
  obtain ⟨G1', t1, R1', n1⟩ := nrm_step R1 q1
  refine ⟨F, G1', ρ1, lo', ρ2, R1', e2, fun G2 H2 s2 R2 => ⟨F, G2, ρ2, hi', _, R2, e3, fun G3 H3 s3 R3 => ?_⟩⟩
  refine sld R3.gh (pk_ro R3 (n1.mono (s2.trans s3)) e4) ez Q fun w H4 hz => ?_
  obtain ⟨G4, t4, R4, q4⟩ := rz_done R3 hz
  exact k w G4 H4 ((((s1.trans t1).trans s2).trans s3).trans t4) R4 q4
def bTupE (fs : Ax) : Ex := fun ρ => match fs ρ with
  | none => none
  | some (rs, ρ1) => match dsOf rs with
    | none => none
    | some ds => if ds.length ≤ 16777216 then some (.d (.tup ds), ρ1) else none
def bLstE (fs : Ax) : Ex := fun ρ => match fs ρ with
  | none => none
  | some (rs, ρ1) => match dsOf rs with
    | none => none
    | some ds => if ds.length ≤ 16777216 then some (.own ds, ρ1) else none
theorem ev_tup {j : Nat} (h : PAv X es fs) (hp : PE X (.Tuple es j pos) (tTup (tAr X.K fs))) : PEv X (.Tuple es j pos) (bTupE fs) := PE.imp hp fun σ H Q h => by
  obtain ⟨F, G, ρ, r, ρ', R, q, k⟩ := h
  unfold bTupE at q
  split at q
  · cases q
  rename_i rs ρ1 e1
  split at q
  · cases q
  rename_i ds e2
  split at q
  rotate_left
  · cases q
  rename_i hl
  cases q
  refine ⟨F, G, ρ, rs, _, R, e1, fun vs G1 H1 s1 R1 q1 => ?_⟩
  have hr := ds_of q1 e2
  refine ⟨by rw [sizeLine_num, hr.length]; exact hl, fun p hp => ?_⟩
  obtain ⟨G2, t2, R2, q2⟩ := rz_done R1 (RZ.tup (G := G1) hp hr)
  exact k _ G2 _ (s1.trans t2) R2 q2
theorem ev_lst (h : PAv X es fs) (hp : PE X (.List es pos) (tLst (tAr X.K fs))) : PEv X (.List es pos) (bLstE fs) := PE.imp hp fun σ H Q h => by
  obtain ⟨F, G, ρ, r, ρ', R, q, k⟩ := h
  unfold bLstE at q
  split at q
  · cases q
  rename_i rs ρ1 e1
  split at q
  · cases q
  rename_i ds e2
  split at q
  rotate_left
  · cases q
  rename_i hl
  cases q
  refine ⟨F, G, ρ, rs, _, R, e1, fun vs G1 H1 s1 R1 q1 => ?_⟩
  have hr := ds_of q1 e2
  refine ⟨by rw [sizeLine_num, hr.length]; exact hl, fun p hp => ?_⟩
  obtain ⟨G2, t2, R2, q2⟩ := rz_done R1 (RZ.lst (G := G1) hp hr)
  exact k _ G2 _ (s1.trans t2) R2 q2
end
end M
namespace M
open PySem PySem.Spec PyProof.Rows L2 TL
section
variable {X : Cx} {a b c e : Expr} {es : List Expr} {fa fb fc : Ex} {fs : Ax} {pos p : Pos} {x : Str} {id : String}
theorem ev_fn {r : List V → Hp → VK → Prop} {g : List D → Option RV} (hc : CallR X (.builtin id) r) (hd : FnD X.K r g) (hg : Gl X x) (hm : X.mg x = none) (hv : bootBuiltins x = some (.builtin id)) (h : PAv X (e :: es) fs) (hn : x ≠ "__name__" := by decide) (hdb : (x == ("__debug__" : Str)) = false := by decide)
    (he : starEach (e :: es) X.env = (false, eval e X.env) :: starEach es X.env := by rfl) (hpl : (backTo pos (starEach es X.env)).any (·.1) = false := by rfl) : PEv X (.Call (.Name x p) (e :: es) [] pos) (bFn g fs) :=
  PE.imp (pe_callB hc hg hm hv h hn hdb he hpl) fun _ _ _ q => readA hd q
theorem ev_ty {T : String} {r : List V → Hp → VK → Prop} {g : List D → Option RV} (hc : CallR X (.type T) r) (hd : FnD X.K r g) (hg : Gl X x) (hm : X.mg x = none) (hv : bootBuiltins x = some (.type T)) (h : PAv X (e :: es) fs) (hn : x ≠ "__name__" := by decide) (hdb : (x == ("__debug__" : Str)) = false := by decide)
    (he : starEach (e :: es) X.env = (false, eval e X.env) :: starEach es X.env := by rfl) (hpl : (backTo pos (starEach es X.env)).any (·.1) = false := by rfl) : PEv X (.Call (.Name x p) (e :: es) [] pos) (bFn g fs) :=
  PE.imp (pe_callTy hc hg hm hv h hn hdb he hpl) fun _ _ _ q => readA hd q
end
theorem ros1 {K : PySem.W.Frag} {G H : Hp} {d : D} {vs : List V} (h : ROs K G H [d] vs) : ∃ v, vs = [v] ∧ RO K G H d v := by
  obtain ⟨x, xs, e1, e2, e3⟩ := h
  cases e3
  exact ⟨x, e1, e2⟩
theorem ros2 {K : PySem.W.Frag} {G H : Hp} {d d' : D} {vs : List V} (h : ROs K G H [d, d'] vs) : ∃ v w, vs = [v, w] ∧ RO K G H d v ∧ RO K G H d' w := by
  obtain ⟨x, xs, e1, e2, y, ys, e3, e4, e5⟩ := h
  cases e5
  subst e3
  exact ⟨x, y, e1, e2, e4⟩
def lenD : List D → Option RV
  | [.str s] => if s.length ≤ 16777216 then some (.d (.int s.length)) else none
  | [.lst xs] => some (.d (.int xs.length))
  | [.tup xs] => some (.d (.int xs.length))
  | [.scr xs] => some (.d (.int xs.length))
  | _ => none
theorem fnd_len {K : PySem.W.Frag} : FnD K (fun xs H Q => ∃ (x : V) (n : Nat), xs = [x] ∧ LenV K x H n ∧ Q (.int n) H) lenD := by
  intro G H xs ds z s hx e Q k
  unfold lenD at e
  split at e
  · split at e
    · rename_i s' hl
      cases e
      obtain ⟨v, rfl, r⟩ := ros1 hx
      rw [r.str]
      exact ⟨_, s'.length, rfl, ⟨by rw [sizeLine_num]; simpa [Str.length] using hl, by simp [Str.length]⟩, k _ _ (.same rfl)⟩
    · cases e
  · rename_i ys
    cases e
    obtain ⟨v, rfl, r⟩ := ros1 hx
    obtain ⟨p, vs, e1, e2, e3⟩ := r.lst s
    subst e1
    exact ⟨_, ys.length, rfl, .inl ⟨vs, SqL.of e2, e3.length.symm⟩, k _ _ (.same rfl)⟩
  · rename_i ys
    cases e
    obtain ⟨v, rfl, r⟩ := ros1 hx
    obtain ⟨p, vs, e1, e2, e3⟩ := r.tup s
    subst e1
    exact ⟨_, ys.length, rfl, .inr ⟨vs, e2, e3.length.symm⟩, k _ _ (.same rfl)⟩
  · rename_i ys
    cases e
    obtain ⟨v, rfl, r⟩ := ros1 hx
    obtain ⟨p, vs, e1, e2, e3⟩ := r.scr s
    subst e1
    exact ⟨_, ys.length, rfl, .inl ⟨vs, e2, e3.length.symm⟩, k _ _ (.same rfl)⟩
  · cases e
def absD : List D → Option RV
  | [.int i] => some (.d (.int (if i < 0 then -i else i)))
  | _ => none
theorem fnd_abs {K : PySem.W.Frag} : FnD K (fun xs H Q => ∃ i : Int, xs = [V.int i] ∧ Q (.int (if i < 0 then -i else i)) H) absD := by
  intro G H xs ds z s hx e Q k
  unfold absD at e
  split at e
  · cases e
    obtain ⟨v, rfl, r⟩ := ros1 hx
    exact ⟨_, by rw [r.int], k _ _ (.same rfl)⟩
  · cases e
def intD : List D → Option RV
  | [.int i] => some (.d (.int i))
  | [.bl b] => some (.d (.int (if b then 1 else 0)))
  | _ => none
theorem fnd_int {K : PySem.W.Frag} : FnD K (fun xs H Q => (∃ i : Int, xs = [V.int i] ∧ Q (.int i) H) ∨ ∃ k : Bool, xs = [V.bl k] ∧ Q (.int (if k then 1 else 0)) H) intD := by
  intro G H xs ds z s hx e Q k
  unfold intD at e
  split at e
  · cases e
    obtain ⟨v, rfl, r⟩ := ros1 hx
    exact .inl ⟨_, by rw [r.int], k _ _ (.same rfl)⟩
  · cases e
    obtain ⟨v, rfl, r⟩ := ros1 hx
    exact .inr ⟨_, by rw [r.bl], k _ _ (.same rfl)⟩
  · cases e
def intsOf : List D → Option (List Int)
  | [] => some []
  | .int i :: ds => (intsOf ds).map fun r => i :: r
  | _ => none
theorem ints_rds {K : PySem.W.Frag} {H : Hp} : ∀ {ds : List D} {vs : List V} {ns : List Int}, intsOf ds = some ns → RDs K H ds vs → vs = ns.map V.int
  | [], vs, ns, e, h => by cases e; cases h; rfl
  | .int i :: ds, vs, ns, e, ⟨x, xs, e1, e2, e3⟩ => by
    obtain ⟨r, h1, h2⟩ := Option.map_eq_some_iff.mp e
    subst h2
    cases e2
    rw [e1, ints_rds h1 e3]; rfl
  | .non :: ds, vs, ns, e, _ => by cases e
  | .bl _ :: ds, vs, ns, e, _ => by cases e
  | .str _ :: ds, vs, ns, e, _ => by cases e
  | .lst _ :: ds, vs, ns, e, _ => by cases e
  | .tup _ :: ds, vs, ns, e, _ => by cases e
  | .scr _ :: ds, vs, ns, e, _ => by cases e
  | .ins _ _ _ :: ds, vs, ns, e, _ => by cases e
  | .ptr _ :: ds, vs, ns, e, _ => by cases e
  | .exn _ _ _ _ :: ds, vs, ns, e, _ => by cases e
def boolsOf : List D → Option (List Bool)
  | [] => some []
  | .bl i :: ds => (boolsOf ds).map fun r => i :: r
  | _ => none
theorem bools_rds {K : PySem.W.Frag} {H : Hp} : ∀ {ds : List D} {vs : List V} {ns : List Bool}, boolsOf ds = some ns → RDs K H ds vs → vs = ns.map V.bl
  | [], vs, ns, e, h => by cases e; cases h; rfl
  | .bl i :: ds, vs, ns, e, ⟨x, xs, e1, e2, e3⟩ => by
    obtain ⟨r, h1, h2⟩ := Option.map_eq_some_iff.mp e
    subst h2
    cases e2
    rw [e1, bools_rds h1 e3]; rfl
  | .non :: ds, vs, ns, e, _ => by cases e
  | .int _ :: ds, vs, ns, e, _ => by cases e
  | .str _ :: ds, vs, ns, e, _ => by cases e
  | .lst _ :: ds, vs, ns, e, _ => by cases e
  | .tup _ :: ds, vs, ns, e, _ => by cases e
  | .scr _ :: ds, vs, ns, e, _ => by cases e
  | .ins _ _ _ :: ds, vs, ns, e, _ => by cases e
  | .ptr _ :: ds, vs, ns, e, _ => by cases e
  | .exn _ _ _ _ :: ds, vs, ns, e, _ => by cases e
def strsOf : List D → Option (List (List Nat))
  | [] => some []
  | .str i :: ds => (strsOf ds).map fun r => i :: r
  | _ => none
theorem strs_rds {K : PySem.W.Frag} {H : Hp} : ∀ {ds : List D} {vs : List V} {ns : List (List Nat)}, strsOf ds = some ns → RDs K H ds vs → vs = (ns.map fun s => (⟨s.toArray⟩ : Str)).map V.str
  | [], vs, ns, e, h => by cases e; cases h; rfl
  | .str i :: ds, vs, ns, e, ⟨x, xs, e1, e2, e3⟩ => by
    obtain ⟨r, h1, h2⟩ := Option.map_eq_some_iff.mp e
    subst h2
    cases e2
    rw [e1, strs_rds h1 e3]; rfl
  | .non :: ds, vs, ns, e, _ => by cases e
  | .int _ :: ds, vs, ns, e, _ => by cases e
  | .bl _ :: ds, vs, ns, e, _ => by cases e
  | .lst _ :: ds, vs, ns, e, _ => by cases e
  | .tup _ :: ds, vs, ns, e, _ => by cases e
  | .scr _ :: ds, vs, ns, e, _ => by cases e
  | .ins _ _ _ :: ds, vs, ns, e, _ => by cases e
  | .ptr _ :: ds, vs, ns, e, _ => by cases e
  | .exn _ _ _ _ :: ds, vs, ns, e, _ => by cases e
def anyL : D → Option (List D)
  | .lst xs => some xs
  | .scr xs => some xs
  | _ => none
theorem anyL_of {K : PySem.W.Frag} {G H : Hp} {d : D} {v : V} {xs : List D} (s : Same G H) (h : RO K G H d v) (e : anyL d = some xs) : ∃ p vs, v = .ref p ∧ SqL K H p vs ∧ RDs K G xs vs := by
  cases d with
  | lst ys => cases e; obtain ⟨p, vs, h1, h2, h3⟩ := h.lst s; exact ⟨p, vs, h1, SqL.of h2, h3⟩
  | scr ys => cases e; exact h.scr s
  | _ => cases e
def sumD : List D → Option RV
  | [d] => match anyL d with
    | some xs => (intsOf xs).map fun ns => .d (.int ns.sum)
    | none => none
  | _ => none
theorem fnd_sum {K : PySem.W.Frag} : FnD K (rSum K) sumD := by
  intro G H xs ds z s hx e Q k
  unfold sumD at e
  split at e
  · split at e
    · rename_i d ys el
      obtain ⟨ns, e1, e2⟩ := Option.map_eq_some_iff.mp e
      subst e2
      obtain ⟨v, rfl, r⟩ := ros1 hx
      obtain ⟨p, vs, f1, f2, f3⟩ := anyL_of s r el
      subst f1
      rw [ints_rds e1 f3] at f2
      exact ⟨p, ns, rfl, f2, k _ _ (.same rfl)⟩
    · cases e
  · cases e
def minL (n : Int) (ns : List Int) : Int := ns.foldl (fun m k => if k < m then k else m) n
def maxL (n : Int) (ns : List Int) : Int := ns.foldl (fun m k => if m < k then k else m) n
theorem minL_spec : ∀ (ns : List Int) (n : Int), (minL n ns = n ∨ minL n ns ∈ ns) ∧ minL n ns ≤ n ∧ ∀ y ∈ ns, minL n ns ≤ y
  | [], n => by simp [minL]
  | m :: ns, n => by
    obtain ⟨h1, h2, h3⟩ := minL_spec ns (if m < n then m else n)
    have e : minL n (m :: ns) = minL (if m < n then m else n) ns := rfl
    rw [e]
    refine ⟨?_, ?_, fun y hy => ?_⟩
    · rcases h1 with h1 | h1
      · rw [h1]; split
        · exact .inr List.mem_cons_self
        · exact .inl rfl
      · exact .inr (List.mem_cons_of_mem _ h1)
    · split at h2 <;> rename_i h <;> simp only [h, if_true, if_false] <;> omega
    · rcases List.mem_cons.mp hy with rfl | hy
      · split at h2 <;> rename_i h <;> simp only [h, if_true, if_false] <;> omega
      · exact h3 y hy
theorem maxL_spec : ∀ (ns : List Int) (n : Int), (maxL n ns = n ∨ maxL n ns ∈ ns) ∧ n ≤ maxL n ns ∧ ∀ y ∈ ns, y ≤ maxL n ns
  | [], n => by simp [maxL]
  | m :: ns, n => by
    obtain ⟨h1, h2, h3⟩ := maxL_spec ns (if n < m then m else n)
    have e : maxL n (m :: ns) = maxL (if n < m then m else n) ns := rfl
    rw [e]
    refine ⟨?_, ?_, fun y hy => ?_⟩
    · rcases h1 with h1 | h1
      · rw [h1]; split
        · exact .inr List.mem_cons_self
        · exact .inl rfl
      · exact .inr (List.mem_cons_of_mem _ h1)
    · split at h2 <;> rename_i h <;> simp only [h, if_true, if_false] <;> omega
    · rcases List.mem_cons.mp hy with rfl | hy
      · split at h2 <;> rename_i h <;> simp only [h, if_true, if_false] <;> omega
      · exact h3 y hy
def minD : List D → Option RV
  | [.int i, .int j] => some (.d (.int (if j < i then j else i)))
  | [.lst xs] => match intsOf xs with
    | some (n :: ns) => some (.d (.int (minL n ns)))
    | _ => none
  | _ => none
def maxD : List D → Option RV
  | [.int i, .int j] => some (.d (.int (if j > i then j else i)))
  | [.lst xs] => match intsOf xs with
    | some (n :: ns) => some (.d (.int (maxL n ns)))
    | _ => none
  | _ => none
theorem fnd_min {K : PySem.W.Frag} : FnD K (fun xs H Q => (∃ i j : Int, xs = [V.int i, V.int j] ∧ Q (.int (if j < i then j else i)) H) ∨ rMin K xs H Q) minD := by
  intro G H xs ds z s hx e Q k
  unfold minD at e
  split at e
  · cases e
    obtain ⟨v, w, rfl, r1, r2⟩ := ros2 hx
    exact .inl ⟨_, _, by rw [r1.int, r2.int], k _ _ (.same rfl)⟩
  · split at e
    · rename_i ys n ns el
      cases e
      obtain ⟨v, rfl, r⟩ := ros1 hx
      obtain ⟨p, vs, f1, f2, f3⟩ := r.lst s
      subst f1
      rw [ints_rds el f3] at f2
      refine .inr ⟨p, n :: ns, rfl, SqL.of f2, by simp, fun m hm hall => ?_⟩
      obtain ⟨h1, h2, h3⟩ := minL_spec ns n
      have : m = minL n ns := by
        have a1 : m ≤ minL n ns := by
          rcases h1 with h1 | h1
          · rw [h1]; exact hall n List.mem_cons_self
          · exact hall _ (List.mem_cons_of_mem _ h1)
        have a2 : minL n ns ≤ m := by
          rcases List.mem_cons.mp hm with rfl | hm
          · exact h2
          · exact h3 m hm
        omega
      rw [this]
      exact k _ _ (.same rfl)
    · cases e
  · cases e
theorem fnd_max {K : PySem.W.Frag} : FnD K (fun xs H Q => (∃ i j : Int, xs = [V.int i, V.int j] ∧ Q (.int (if j > i then j else i)) H) ∨ rMax K xs H Q) maxD := by
  intro G H xs ds z s hx e Q k
  unfold maxD at e
  split at e
  · cases e
    obtain ⟨v, w, rfl, r1, r2⟩ := ros2 hx
    exact .inl ⟨_, _, by rw [r1.int, r2.int], k _ _ (.same rfl)⟩
  · split at e
    · rename_i ys n ns el
      cases e
      obtain ⟨v, rfl, r⟩ := ros1 hx
      obtain ⟨p, vs, f1, f2, f3⟩ := r.lst s
      subst f1
      rw [ints_rds el f3] at f2
      refine .inr ⟨p, n :: ns, rfl, SqL.of f2, by simp, fun m hm hall => ?_⟩
      obtain ⟨h1, h2, h3⟩ := maxL_spec ns n
      have : m = maxL n ns := by
        have a1 : maxL n ns ≤ m := by
          rcases h1 with h1 | h1
          · rw [h1]; exact hall n List.mem_cons_self
          · exact hall _ (List.mem_cons_of_mem _ h1)
        have a2 : m ≤ maxL n ns := by
          rcases List.mem_cons.mp hm with rfl | hm
          · exact h2
          · exact h3 m hm
        omega
      rw [this]
      exact k _ _ (.same rfl)
    · cases e
  · cases e
def allD : List D → Option RV
  | [.lst xs] => (boolsOf xs).map fun bs => .d (.bl (bs.all id))
  | _ => none
theorem fnd_all {K : PySem.W.Frag} : FnD K (rAll K) allD := by
  intro G H xs ds z s hx e Q k
  unfold allD at e
  split at e
  · obtain ⟨ns, e1, e2⟩ := Option.map_eq_some_iff.mp e
    subst e2
    obtain ⟨v, rfl, r⟩ := ros1 hx
    obtain ⟨p, vs, f1, f2, f3⟩ := r.lst s
    subst f1
    rw [bools_rds e1 f3] at f2
    exact ⟨p, ns, rfl, SqL.of f2, k _ _ (.same rfl)⟩
  · cases e
def anyD : List D → Option RV
  | [.lst xs] => (boolsOf xs).map fun bs => .d (.bl (bs.any id))
  | _ => none
theorem fnd_any {K : PySem.W.Frag} : FnD K (rAny K) anyD := by
  intro G H xs ds z s hx e Q k
  unfold anyD at e
  split at e
  · obtain ⟨ns, e1, e2⟩ := Option.map_eq_some_iff.mp e
    subst e2
    obtain ⟨v, rfl, r⟩ := ros1 hx
    obtain ⟨p, vs, f1, f2, f3⟩ := r.lst s
    subst f1
    rw [bools_rds e1 f3] at f2
    exact ⟨p, ns, rfl, SqL.of f2, k _ _ (.same rfl)⟩
  · cases e
def tupleD : List D → Option RV
  | [.lst xs] => some (.d (.tup xs))
  | [.tup xs] => some (.d (.tup xs))
  | _ => none
theorem fnd_tuple {K : PySem.W.Frag} : FnD K (fun xs H Q => ∃ (p : Addr) (ys : List V), xs = [V.ref p] ∧ ((SqL K H p ys ∧ ∀ l, H l = none → Q (.ref l) (upd H l (.tup ys))) ∨ (SqT K H p ys ∧ Q (.ref p) H))) tupleD := by
  intro G H xs ds z s hx e Q k
  unfold tupleD at e
  split at e
  · cases e
    obtain ⟨v, rfl, r⟩ := ros1 hx
    obtain ⟨p, vs, f1, f2, f3⟩ := r.lst s
    subst f1
    exact ⟨p, vs, rfl, .inl ⟨SqL.of f2, fun l hl => k _ _ (.tup hl f3)⟩⟩
  · cases e
    obtain ⟨v, rfl, r⟩ := ros1 hx
    obtain ⟨p, vs, f1, f2, f3⟩ := r.tup s
    subst f1
    exact ⟨p, vs, rfl, .inr ⟨f2, k _ _ (.same r.rdT)⟩⟩
  · cases e
def listD : List D → Option RV
  | [.lst xs] => some (.own xs)
  | [.scr xs] => some (.own xs)
  | [.tup xs] => some (.own xs)
  | _ => none
theorem fnd_list {K : PySem.W.Frag} : FnD K (fun xs H Q => ∃ (p : Addr) (ys : List V), xs = [V.ref p] ∧ (SqL K H p ys ∨ SqT K H p ys) ∧ ∀ l, H l = none → Q (.ref l) (upd H l (.lst ys))) listD := by
  intro G H xs ds z s hx e Q k
  unfold listD at e
  split at e
  · cases e
    obtain ⟨v, rfl, r⟩ := ros1 hx
    obtain ⟨p, vs, f1, f2, f3⟩ := r.lst s
    subst f1
    exact ⟨p, vs, rfl, .inl (SqL.of f2), fun l hl => k _ _ (.lst hl f3)⟩
  · cases e
    obtain ⟨v, rfl, r⟩ := ros1 hx
    obtain ⟨p, vs, f1, f2, f3⟩ := r.scr s
    subst f1
    exact ⟨p, vs, rfl, .inl f2, fun l hl => k _ _ (.lst hl f3)⟩
  · cases e
    obtain ⟨v, rfl, r⟩ := ros1 hx
    obtain ⟨p, vs, f1, f2, f3⟩ := r.tup s
    subst f1
    exact ⟨p, vs, rfl, .inr f2, fun l hl => k _ _ (.lst hl f3)⟩
  · cases e
def bListRange (f : Ex) : Ex := fun ρ => match f ρ with
  | some (.d (.int j), ρ1) => if -(2 ^ 62) ≤ j ∧ j ≤ 16777216 then some (.own ((List.range j.toNat).map fun k : Nat => D.int (k : Int)), ρ1) else none
  | _ => none
theorem rds_range {K : PySem.W.Frag} {H : Hp} {lo : Int} : ∀ ns : List Nat, RDs K H (ns.map fun k : Nat => D.int (lo + (k : Int))) (ns.map fun k : Nat => V.int (lo + (k : Int)))
  | [] => rfl
  | n :: ns => ⟨_, _, rfl, rfl, rds_range ns⟩
section
variable {X : Cx} {a b c e o : Expr} {es : List Expr} {fa fb fc : Ex} {fs : Ax} {pos p p2 pos2 : Pos} {x : Str} {id : String}
theorem ev_listRange (hc : X.calm = true) (hg : Gl X "list") (hm : X.mg "list" = none) (hg2 : Gl X "range") (hm2 : X.mg "range" = none) (h : PEv X a fa) (na : starEach [a] X.env = (false, eval a X.env) :: starEach [] X.env := by rfl)
    (nb : starEach [.Call (.Name "range" p2) [a] [] pos2] X.env = (false, eval (.Call (.Name "range" p2) [a] [] pos2) X.env) :: starEach [] X.env := by rfl) : PEv X (.Call (.Name "list" p) [.Call (.Name "range" p2) [a] [] pos2] [] pos) (bListRange fa) :=
  PE.imp (pe_listRg hc hg hm (prg_1 hg2 hm2 h na) nb) fun σ H Q q => by
    obtain ⟨F, G, ρ, r, ρ', R, q, k⟩ := q
    unfold bListRange at q
    split at q
    rotate_left
    · cases q
    rename_i j ρ1 e1
    split at q
    rotate_left
    · cases q
    rename_i hj
    cases q
    refine ⟨F, G, ρ, _, _, R, e1, fun v G1 H1 s1 R1 q1 => ⟨j, q1, ⟨by omega, by omega, by omega, by omega, by omega⟩, fun l hl => ?_⟩⟩
    have hr : RDs X.K G1 ((List.range j.toNat).map fun k : Nat => D.int (k : Int)) (rgV 0 j) := by
      have := rds_range (K := X.K) (H := G1) (lo := 0) (List.range j.toNat)
      unfold rgV
      simpa using this
    obtain ⟨G2, t2, R2, q2⟩ := rz_done R1 (RZ.lst (G := G1) hl hr)
    exact k _ G2 _ (s1.trans t2) R2 q2
def tyD : D → Option String
  | .non => some "NoneType"
  | .bl _ => some "bool"
  | .int _ => some "int"
  | .str _ => some "str"
  | .lst _ => some "list"
  | .tup _ => some "tuple"
  | .dct _ _ => some "dict"
  | _ => none
def isiD (T : String) : List D → Option RV
  | [x, .ptr (.ty U)] => if U = T then match tyD x with
      | some A => (kitB A T).map fun r => .d (.bl r)
      | none => none
    else none
  | _ => none
theorem ty_of {K : PySem.W.Frag} {G H : Hp} {d : D} {v : V} {A : String} (s : Same G H) (r1 : RO K G H d v) (hA : tyD d = some A) : TyX K H v (.type A) := by
  cases d with
  | non => cases hA; rw [r1.non]; exact .base .non
  | bl b => cases hA; rw [r1.bl]; exact .base (.bl b)
  | int i => cases hA; rw [r1.int]; exact .base (.int i)
  | str t => cases hA; rw [r1.str]; exact .base (.str _)
  | lst ys =>
    cases hA
    obtain ⟨p, vs, f1, f2, f3⟩ := r1.lst s
    subst f1
    exact .base (.lst f2)
  | tup ys =>
    cases hA
    obtain ⟨p, vs, f1, f2, f3⟩ := r1.tup s
    subst f1
    rcases f2 with (f2 | ⟨o, f2⟩) | ⟨o, its, n, k1, k2, _⟩
    · exact .base (.tup f2)
    · exact .fTuple f2
    · exact .kTuple k1 k2
  | dct ks xs =>
    cases hA
    obtain ⟨p, kvs, f1, f2, f3⟩ := r1.dct s
    subst f1
    exact .base (.dK f2)
  | _ => cases hA
theorem fnd_isi {K : PySem.W.Frag} {T : String} : FnD K (rIsi K) (isiD T) := by
  intro G H xs ds z s hx e Q k
  unfold isiD at e
  split at e
  · split at e
    rotate_left
    · cases e
    rename_i d U hU
    subst hU
    split at e
    rotate_left
    · cases e
    rename_i A hA
    obtain ⟨r, e1, e2⟩ := Option.map_eq_some_iff.mp e
    subst e2
    obtain ⟨v, w, rfl, r1, r2⟩ := ros2 hx
    have r2' : w = .ty U := by
      rcases r2 with h | ⟨ds', p, vs, h0, h1, h2, h3⟩
      · exact h
      · cases h0
    subst r2'
    exact ⟨v, _, .type A, .type U, r, rfl, .ty U, ty_of s r1 hA, kit_ty e1, k _ _ (.same rfl)⟩
  · cases e
theorem ev_cls {T : String} (hg : Gl X x) (hm : X.mg x = none) (hv : bootBuiltins x = some (.type T)) (hn : x ≠ "__name__" := by decide) (hd : (x == ("__debug__" : Str)) = false := by decide) : PEv X (.Name x pos) (bC (.ptr (.ty T))) :=
  ev_const (v := .ty T) (pe_bltn hg hm hv (show RelV (.ty T) (.type T) from rfl) hn hd) fun G => rfl
def bMt (g : List Nat → List D → Option RV) (fo : Ex) (fs : Ax) : Ex := fun ρ => match fo ρ with
  | some (.d (.str s), ρ1) => match fs ρ1 with
    | none => none
    | some (rs, ρ2) => match pks ρ2 rs with
      | none => none
      | some ds => (g s ds).map fun z => (z, ρ2)
  | _ => none
def MtD (K : PySem.W.Frag) (r : V → List V → Hp → VK → Prop) (g : List Nat → List D → Option RV) : Prop := ∀ (G H : Hp) (s : List Nat) (xs : List V) (ds : List D) (z : RV), Same G H → ROs K G H ds xs → g s ds = some z → ∀ Q : VK, (∀ v H', RZ K G H z v H' → Q v H') → r (.str ⟨s.toArray⟩) xs H Q
theorem read_mt {K : PySem.W.Frag} {fo : Ex} {g : List Nat → List D → Option RV} {r : V → List V → Hp → VK → Prop} (hg : MtD K r g) {σ : Sg} {H : Hp} {Q : VK} (h : tE K (bMt g fo fs) σ H Q) : tBM K "str" r (tE K fo) (tAr K fs) σ H Q := by
  obtain ⟨F, G, ρ, z, ρ', R, e, k⟩ := h
  unfold bMt at e
  split at e
  rotate_left
  · cases e
  rename_i s ρ1 e1
  split at e
  · cases e
  rename_i rs ρ2 e2
  split at e
  · cases e
  rename_i ds e3
  obtain ⟨z', ez, eq⟩ := Option.map_eq_some_iff.mp e
  cases eq
  refine ⟨F, G, ρ, _, ρ1, R, e1, fun v G1 H1 s1 R1 q1 => ?_⟩
  cases (show v = .str ⟨s.toArray⟩ from q1)
  refine ⟨rfl, F, G1, ρ1, rs, _, R1, e2, fun vs G2 H2 s2 R2 q2 => ?_⟩
  refine hg G2 H2 s vs ds _ R2.gh (pks_ros R2 q2 e3) ez Q fun w H3 hz => ?_
  obtain ⟨G3, t3, R3, q3⟩ := rz_done R2 hz
  exact k w G3 H3 ((s1.trans s2).trans t3) R3 q3
def joinD (s : List Nat) : List D → Option RV
  | [.lst xs] => match strsOf xs with
    | some ys => if (ys.map (·.length)).sum + ys.length * s.length ≤ 16777216 then some (.d (.str (joinL s ys))) else none
    | none => none
  | [.tup xs] => match strsOf xs with
    | some ys => if (ys.map (·.length)).sum + ys.length * s.length ≤ 16777216 then some (.d (.str (joinL s ys))) else none
    | none => none
  | _ => none
theorem str_of_tl {x : Str} {l : List Nat} (h : tl x = l) : x = ⟨l.toArray⟩ := by
  subst h
  cases x
  simp [tl]
theorem map_tl : ∀ ys : List (List Nat), (ys.map fun s => (⟨s.toArray⟩ : Str)).map tl = ys
  | [] => rfl
  | y :: ys => by
    show tl ⟨y.toArray⟩ :: _ = _
    rw [map_tl ys]
theorem join_val (s : List Nat) (ys : List (List Nat)) : Txt.join ⟨s.toArray⟩ (ys.map fun s => (⟨s.toArray⟩ : Str)) = ⟨(joinL s ys).toArray⟩ := by
  refine str_of_tl ?_
  rw [join_eq, tl_join, map_tl]
theorem mtd_join {K : PySem.W.Frag} : MtD K (fun x xs H Q => ∃ a p, ∃ ys : List Str, x = V.str a ∧ xs = [.ref p] ∧ (SqL K H p (ys.map V.str) ∨ SqT K H p (ys.map V.str)) ∧
    (ys.map (·.length)).sum + ys.length * a.length ≤ 16777216 ∧ Q (.str (Txt.join a ys)) H) joinD := by
  intro G H s xs ds z sm hx e Q k
  have key : ∀ ys : List (List Nat), (ys.map (·.length)).sum + ys.length * s.length ≤ 16777216 → ((ys.map fun s => (⟨s.toArray⟩ : Str)).map (·.length)).sum + (ys.map fun s => (⟨s.toArray⟩ : Str)).length * (⟨s.toArray⟩ : Str).length ≤ 16777216 := fun ys h => by
    rw [List.map_map, List.length_map]
    have e : ((fun x : Str => x.length) ∘ fun s : List Nat => (⟨s.toArray⟩ : Str)) = fun s : List Nat => s.length := by
      funext s; simp [Str.length]
    rw [e]
    simpa [Str.length] using h
  unfold joinD at e
  split at e
  · split at e
    rotate_left
    · cases e
    rename_i ys el
    split at e
    rotate_left
    · cases e
    rename_i hl
    cases e
    obtain ⟨v, rfl, r⟩ := ros1 hx
    obtain ⟨p, vs, f1, f2, f3⟩ := r.lst sm
    subst f1
    rw [strs_rds el f3] at f2
    exact ⟨_, p, _, rfl, rfl, .inl (SqL.of f2), key ys hl, by rw [join_val]; exact k _ _ (.same rfl)⟩
  · split at e
    rotate_left
    · cases e
    rename_i ys el
    split at e
    rotate_left
    · cases e
    rename_i hl
    cases e
    obtain ⟨v, rfl, r⟩ := ros1 hx
    obtain ⟨p, vs, f1, f2, f3⟩ := r.tup sm
    subst f1
    rw [strs_rds el f3] at f2
    exact ⟨_, p, _, rfl, rfl, .inr f2, key ys hl, by rw [join_val]; exact k _ _ (.same rfl)⟩
  · cases e
def occ (s t : List Nat) : List Nat := Builtin.Str.occurrences ⟨s.toArray⟩ ⟨t.toArray⟩ 0 s.length 1
def sindexD (s : List Nat) : List D → Option RV
  | [.str t] => match occ s t with
    | i :: _ => some (.d (.int i))
    | [] => none
  | _ => none
theorem mtd_sindex {K : PySem.W.Frag} : MtD K (fun x xs H Q => ∃ a b i rest, x = V.str a ∧ xs = [V.str b] ∧ Builtin.Str.occurrences a b 0 a.length 1 = i :: rest ∧ Q (.int (i : Nat)) H) sindexD := by
  intro G H s xs ds z sm hx e Q k
  unfold sindexD at e
  split at e
  · split at e
    · rename_i t i r el
      cases e
      obtain ⟨v, rfl, q⟩ := ros1 hx
      refine ⟨_, _, i, r, rfl, by rw [q.str], ?_, k _ _ (.same rfl)⟩
      unfold occ at el
      simpa [Str.length] using el
    · cases e
  · cases e
def appendD (xs ds : List D) : Option (List D × D) := match ds with
  | [d] => if xs.length < 16777216 then some (xs ++ [d], .non) else none
  | _ => none
theorem mud_append {K : PySem.W.Frag} : MuD K rAppend appendD := by
  intro G H p vs us xs ds ys z s hp gp hx hd e Q k
  unfold appendD at e
  split at e
  · split at e
    · rename_i d hl
      cases e
      obtain ⟨v, ws, rfl, e2, e3⟩ := hd
      cases e3
      exact ⟨p, vs, v, rfl, rfl, hp, by rw [sizeLine_num, hx.length]; exact hl, k _ _ (hx.append (RDs.one e2)) rfl⟩
    · cases e
  · cases e
def extendD (xs ds : List D) : Option (List D × D) := match ds with
  | [.lst zs] => if xs.length + zs.length ≤ 16777216 then some (xs ++ zs, .non) else none
  | _ => none
theorem mud_extend {K : PySem.W.Frag} : MuD K rExtend extendD := by
  intro G H p vs us xs ds ys z s hp gp hx hd e Q k
  unfold extendD at e
  split at e
  · split at e
    · rename_i zs hl
      cases e
      obtain ⟨v, ws, rfl, ⟨q, ws', rfl, f2, f3⟩, e3⟩ := hd
      cases e3
      exact ⟨p, q, vs, ws', rfl, rfl, hp, s _ _ f2, by rw [sizeLine_num, hx.length, f3.length]; exact hl, k _ _ (hx.append f3) rfl⟩
    · cases e
  · cases e
def popAtD (xs ds : List D) : Option (List D × D) := match ds with
  | [.int i] => if -(2 ^ 63) ≤ i ∧ i < 2 ^ 63 then match seqIndex? i xs.length with
      | some j => match xs[j]? with
        | some d => some (xs.eraseIdx j, d)
        | none => none
      | none => none
    else none
  | _ => none
theorem mud_popAt {K : PySem.W.Frag} : MuD K rPopAt popAtD := by
  intro G H p vs us xs ds ys z s hp gp hx hd e Q k
  unfold popAtD at e
  split at e
  · split at e
    rotate_left
    · cases e
    rename_i i hi
    split at e
    rotate_left
    · cases e
    rename_i j hj
    split at e
    rotate_left
    · cases e
    rename_i d he
    cases e
    obtain ⟨v, ws, rfl, e2, e3⟩ := hd
    cases e3
    cases (show v = .int i from e2)
    obtain ⟨w, w1, w2⟩ := hx.get he
    exact ⟨p, vs, i, j, w, rfl, rfl, hp, hi.1, hi.2, by rw [hx.length]; exact hj, w1, k _ _ (hx.eraseIdx j) w2⟩
  · cases e
def popD (xs ds : List D) : Option (List D × D) := match ds with
  | [] => match xs[xs.length - 1]? with
    | some d => some (xs.dropLast, d)
    | none => none
  | _ => none
theorem RDs.dropLast {K : PySem.W.Frag} {G : Hp} {ds : List D} {vs : List V} (h : RDs K G ds vs) : RDs K G ds.dropLast vs.dropLast := by
  rw [List.dropLast_eq_take, List.dropLast_eq_take, h.length]
  exact h.take _
theorem mud_pop {K : PySem.W.Frag} : MuD K rPop popD := by
  intro G H p vs us xs ds ys z s hp gp hx hd e Q k
  unfold popD at e
  split at e
  · split at e
    rotate_left
    · cases e
    rename_i d he
    cases e
    cases hd
    obtain ⟨w, w1, w2⟩ := hx.get he
    exact ⟨p, vs, w, rfl, rfl, hp, by rw [hx.length]; exact w1, k _ _ hx.dropLast w2⟩
  · cases e
end
end M
namespace M
open PySem PySem.Spec PyProof.Rows L2 TL
def RWs (K : PySem.W.Frag) (F : Fm) (G H : Hp) (σ : Sg) (ρ : Sl) : List RV → List V → Prop
  | [], vs => vs = []
  | r :: rs, vs => ∃ x xs, vs = x :: xs ∧ RR K F G H σ ρ r x ∧ (∀ j, r ≠ .bor j) ∧ (∀ (ys : List D) (k : Nat) (zs : List D) (y : V), r = .own ys → rs[k]? = some (RV.own zs) → xs[k]? = some y → x ≠ y) ∧ RWs K F G H σ ρ rs xs
def aoCons (f : Ex) (g : Ax) : Ax := fun ρ => match f ρ with
  | none => none
  | some (.bor _, _) => none
  | some (r, ρ1) => match g ρ1 with
    | none => none
    | some (rs, ρ2) => some (r :: rs, ρ2)
def tAo (K : PySem.W.Frag) (f : Ax) : TA := fun σ H Q => ∃ F G ρ rs ρ', Rep K F G H σ ρ ∧ f ρ = some (rs, ρ') ∧ ∀ vs G' H', Same G G' → Rep K F G' H' σ ρ' → RWs K F G' H' σ ρ' rs vs → Q vs H'
def PAo (X : Cx) (es : List Expr) (f : Ax) : Prop := PA X es (tAo X.K f)
theorem RWs.lent {K : PySem.W.Frag} {F : Fm} {G H : Hp} {σ : Sg} {ρ : Sl} {p : Addr} {o : HO} (fp : F.hp p = none) : ∀ {rs : List RV} {vs : List V}, RWs K ⟨upd F.hp p o, F.par⟩ G H σ ρ rs vs → RWs K F G H σ ρ rs vs ∧ ∀ (k : Nat) (zs : List D) (y : V), rs[k]? = some (RV.own zs) → vs[k]? = some y → V.ref p ≠ y
  | [], vs, h => ⟨h, fun k zs y e => by simp at e⟩
  | r :: rs, vs, ⟨x, xs, e1, e2, e3, e4, e5⟩ => by
    obtain ⟨h1, h2⟩ := RWs.lent fp e5
    obtain ⟨h3, h4⟩ := e2.lent fp
    refine ⟨⟨x, xs, e1, h3, e3, e4, h1⟩, fun k zs y q1 q2 => ?_⟩
    subst e1
    cases k with
    | zero =>
      simp at q1 q2
      subst q2
      exact (h4 zs q1).symm
    | succ k => exact h2 k zs y (by simpa using q1) (by simpa using q2)
section
variable {X : Cx} {a b c e : Expr} {es : List Expr} {fa fb fc : Ex} {pos p : Pos} {x : Str}
theorem ao_nil : PAo X [] aNil := PA.imp pa_nil fun σ H Q h => by
  obtain ⟨F, G, ρ, rs, ρ', R, e, k⟩ := h
  cases e
  exact k [] G H (Same.refl G) R rfl
theorem ao_cons {f : Ax} (he : PEv X e fa) (hs : PAo X es f) (hst : starEach (e :: es) X.env = (false, eval e X.env) :: starEach es X.env := by rfl) : PAo X (e :: es) (aoCons fa f) := PA.imp (pa_cons he hs hst) fun σ H Q h => by
  obtain ⟨F, G, ρ, rs, ρ', R, q, k⟩ := h
  unfold aoCons at q
  split at q
  · cases q
  · cases q
  rename_i r ρ1 hnb e1
  split at q
  · cases q
  rename_i rb ρ2 e2
  cases q
  refine ⟨F, G, ρ, r, ρ1, R, e1, fun v G1 H1 s1 R1 q1 => ?_⟩
  cases r with
  | bor i => exact (hnb i rfl).elim
  | d d =>
    refine ⟨F, G1, ρ1, rb, _, R1, e2, fun ys G2 H2 s2 R2 q2 => k _ G2 H2 (s1.trans s2) R2 ⟨v, ys, rfl, RD.mono s2 _ _ q1, fun j z => (nomatch z), fun _ _ _ _ z => (nomatch z), q2⟩⟩
  | own xs =>
    obtain ⟨p, vs, rfl, hp, gp, fp, hr, hs⟩ := q1
    refine ⟨⟨upd F.hp p (.lst vs), F.par⟩, G1, ρ1, rb, _, R1.lend hp gp hs, e2, fun ys G2 H2 s2 R2 q2 => ?_⟩
    obtain ⟨R2', hp2, gp2, ns2⟩ := R2.back fp
    obtain ⟨q2', ne⟩ := q2.lent fp
    exact k _ G2 H2 (s1.trans s2) R2' ⟨.ref p, ys, rfl, ⟨p, vs, rfl, hp2, gp2, fp, RDs.mono s2 _ _ hr, ns2⟩, fun j z => (nomatch z), fun _ k zs y _ z1 z2 => ne k zs y z1 z2, q2'⟩
end
def putRs : List Nat → List RV → Sl → Option Sl
  | [], [], ρ => some ρ
  | i :: is, r :: rs, ρ => match putR i r ρ with
    | none => none
    | some ρ1 => putRs is rs ρ1
  | _, _, _ => none
def sigs : List Nat → List V → Sg → Sg
  | i :: is, v :: vs, σ => sigs is vs (σ.set i (some v))
  | _, _, σ => σ
theorem RWs.put {K : PySem.W.Frag} {F : Fm} {G H : Hp} {σ : Sg} {ρ ρ' : Sl} {i : Nat} {r : RV} {v : V} (e : putR i r ρ = some ρ') : ∀ {rs : List RV} {vs : List V}, (∀ (ys : List D) (k : Nat) (zs : List D) (y : V), r = .own ys → rs[k]? = some (RV.own zs) → vs[k]? = some y → v ≠ y) → RWs K F G H σ ρ rs vs → RWs K F G H (σ.set i (some v)) ρ' rs vs
  | [], vs, _, h => h
  | q :: rs, vs, hd, ⟨x, xs, e1, e2, e3, e4, e5⟩ => by
    subst e1
    refine ⟨x, xs, rfl, RR.put e e2 e3 (fun ys zs z1 z2 => hd ys 0 zs x z1 (by rw [z2]; rfl) rfl), e3, e4, RWs.put e (fun ys k zs y z1 z2 z3 => hd ys (k + 1) zs y z1 (by simpa using z2) (by simpa using z3)) e5⟩
theorem Rep.puts {K : PySem.W.Frag} {F : Fm} {G H : Hp} : ∀ {is : List Nat} {rs : List RV} {vs : List V} {σ : Sg} {ρ ρ' : Sl}, Rep K F G H σ ρ → RWs K F G H σ ρ rs vs → putRs is rs ρ = some ρ' → Rep K F G H (sigs is vs σ) ρ'
  | [], [], vs, σ, ρ, ρ', R, h, e => by
    cases e
    cases h
    exact R
  | [], r :: rs, vs, σ, ρ, ρ', R, h, e => by cases e
  | i :: is, [], vs, σ, ρ, ρ', R, h, e => by cases e
  | i :: is, r :: rs, vs, σ, ρ, ρ', R, ⟨x, xs, e1, e2, e3, e4, e5⟩, e => by
    unfold putRs at e
    split at e
    · cases e
    rename_i ρ1 p1
    subst e1
    show Rep K F G H (sigs is xs (σ.set i (some x))) ρ'
    exact Rep.puts (R.put e2 p1) (RWs.put p1 e4 e5) e
def sParN (is : List Nat) (fs : Ax) : Sx := fun ρ => match fs ρ with
  | none => none
  | some (rs, ρ1) => (putRs is rs ρ1).map fun ρ2 => (.nx, ρ2)
theorem RWs.len {K : PySem.W.Frag} {F : Fm} {G H : Hp} {σ : Sg} {ρ : Sl} : ∀ {rs : List RV} {vs : List V}, RWs K F G H σ ρ rs vs → vs.length = rs.length
  | [], vs, h => by cases h; rfl
  | r :: rs, vs, ⟨x, xs, e1, e2, e3, e4, e5⟩ => by subst e1; simp [RWs.len e5]
theorem putRs_len : ∀ {is : List Nat} {rs : List RV} {ρ ρ' : Sl}, putRs is rs ρ = some ρ' → is.length = rs.length
  | [], [], _, _, _ => rfl
  | [], _ :: _, _, _, e => by cases e
  | _ :: _, [], _, _, e => by cases e
  | i :: is, r :: rs, ρ, ρ', e => by
    unfold putRs at e
    split at e
    · cases e
    · simp [putRs_len e]
section
variable {X : Cx} {a b c e : Expr} {es : List Expr} {fa fb fc : Ex} {fs : Ax} {pos p pos' : Pos} {x y z : Str}
theorem read_parN {K : PySem.W.Frag} {is : List Nat} {fs : Ax} {D : Ends} {σ : Sg} {H : Hp} (h : tS K (sParN is fs) D σ H) : tAo K fs σ H fun vs H1 => vs.length = is.length ∧ D.nx (sigs is vs σ) H1 := by
  obtain ⟨F, G, ρ, fl, ρ', R, q, k⟩ := h
  unfold sParN at q
  split at q
  · cases q
  rename_i rs ρ1 e1
  obtain ⟨ρ2, e2, eq⟩ := Option.map_eq_some_iff.mp q
  cases eq
  exact ⟨F, G, ρ, rs, ρ1, R, e1, fun vs G1 H1 s1 R1 q1 => ⟨by rw [q1.len, putRs_len e2], k _ G1 H1 s1 (R1.puts q1 e2)⟩⟩
theorem sv_par2 {i j : Nat} {px py pt : Pos} {kt k2 pt2} (hc : X.calm = true) (hN : X.N.Nodup) (hi : X.N[i]? = some x) (hj : X.N[j]? = some y) (hij : i ≠ j)
    (hx : X.env.scope.names.lookup x = some .local) (hy : X.env.scope.names.lookup y = some .local) (ha : PAo X [a, b] fs)
    (hw : swappedStores [.Tuple [.Name x px, .Name y py] kt pt] (.Tuple [a, b] k2 pt2) X.env = pure (some [x, y]))
    (hs : swapsWithSole [.Tuple [.Name x px, .Name y py] kt pt] (.Tuple [a, b] k2 pt2) pos.line X.env = pure false := by rfl) :
    PSv X (.Assign [.Tuple [.Name x px, .Name y py] kt pt] (.Tuple [a, b] k2 pt2) pos) (sParN [i, j] fs) := PS.imp (ps_par hc hN hi hj hij hx hy ha hw hs) fun D σ H h => by
  have := read_parN h
  obtain ⟨F, G, ρ, rs, ρ', R, e, k⟩ := this
  refine ⟨F, G, ρ, rs, ρ', R, e, fun vs G1 H1 s1 R1 q1 => ?_⟩
  obtain ⟨hl, q⟩ := k vs G1 H1 s1 R1 q1
  match vs, hl with
  | [v, w], _ => exact ⟨v, w, rfl, q⟩
theorem sv_par3 {i j l : Nat} {px py pz pt : Pos} {kt k2 pt2} (hc : X.calm = true) (hN : X.N.Nodup) (hi : X.N[i]? = some x) (hj : X.N[j]? = some y) (hl : X.N[l]? = some z) (hij : i ≠ j) (hil : i ≠ l) (hjl : j ≠ l)
    (hx : X.env.scope.names.lookup x = some .local) (hy : X.env.scope.names.lookup y = some .local) (hz : X.env.scope.names.lookup z = some .local) (ha : PAo X [a, b, c] fs)
    (hw : swappedStores [.Tuple [.Name x px, .Name y py, .Name z pz] kt pt] (.Tuple [a, b, c] k2 pt2) X.env = pure (some [x, y, z]))
    (hs : swapsWithSole [.Tuple [.Name x px, .Name y py, .Name z pz] kt pt] (.Tuple [a, b, c] k2 pt2) pos.line X.env = pure false := by rfl) :
    PSv X (.Assign [.Tuple [.Name x px, .Name y py, .Name z pz] kt pt] (.Tuple [a, b, c] k2 pt2) pos) (sParN [i, j, l] fs) := PS.imp (ps_par3 hc hN hi hj hl hij hil hjl hx hy hz ha hw hs) fun D σ H h => by
  have := read_parN h
  obtain ⟨F, G, ρ, rs, ρ', R, e, k⟩ := this
  refine ⟨F, G, ρ, rs, ρ', R, e, fun vs G1 H1 s1 R1 q1 => ?_⟩
  obtain ⟨hl, q⟩ := k vs G1 H1 s1 R1 q1
  match vs, hl with
  | [u, v, w], _ => exact ⟨u, v, w, rfl, q⟩
def sBind (bind : Bx) (f : Ex) : Sx := fun ρ => match bFz f ρ with
  | some (.d v, ρ1) => (bind v ρ1).map fun ρ2 => (.nx, ρ2)
  | _ => none
theorem sv_bind {tg : Expr} {bind : Bx} {is : List Nat} (he : PEv X e fa) (hg : PGv X tg bind is) (hs : swapsWithSole [tg] e pos.line X.env = pure false := by rfl) (hw : swappedStores [tg] e X.env = pure none := by rfl) (h1 : (assignEach [tg] X.env).map (·.2) = [assign tg X.env] := by rfl) :
    PSv X (.Assign [tg] e pos) (sBind bind fa) := PS.imp (ps_asg (ev_fz he) hg hs hw h1) fun D σ H h => by
  obtain ⟨F, G, ρ, fl, ρ', R, q, k⟩ := h
  unfold sBind at q
  split at q
  rotate_left
  · cases q
  rename_i v ρ1 e1
  obtain ⟨ρ2, e2, eq⟩ := Option.map_eq_some_iff.mp q
  cases eq
  exact ⟨F, G, ρ, _, ρ1, R, e1, fun w G1 H1 s1 R1 q1 => ⟨F, G1, ρ1, v, _, R1, q1, e2, fun σ' R' _ => k σ' G1 H1 s1 R'⟩⟩
theorem ev_n (i : Nat) (hN : X.N[i]? = some x := by rfl) (hv : Vis X.env.scope x := by first | exact Or.inl rfl | exact Or.inr (Or.inl rfl) | exact Or.inr (Or.inr rfl)) (hd : (x == ("__debug__" : Str)) = false := by decide)
    (hcd : (x == ("__classdict__" : Str)) = false := by decide) : PEv X (.Name x pos) (bV i) := ev_var (pe_var hN hv hd hcd)
theorem ev_int {i j} : PEv X (.Constant (.int i) j pos) (bC (.int i)) := ev_const pe_int fun _ => rfl
theorem ev_bl {i j} : PEv X (.Constant (.bool i) j pos) (bC (.bl i)) := ev_const pe_bl fun _ => rfl
theorem ev_non {j} : PEv X (.Constant .none j pos) (bC .non) := ev_const pe_non fun _ => rfl
theorem ev_str {s : Str} {j} {l : List Nat} (h : s = ⟨l.toArray⟩) : PEv X (.Constant (.str s) j pos) (bC (.str l)) := ev_const pe_str fun _ => by rw [h]; rfl
theorem ev_glob {d : D} {v : V} {u : Value} (hg : Gl X x) (hm : X.mg x = some u) (r : RelV v u) (hd : ∀ G, RD X.K G d v) (hdb : (x == ("__debug__" : Str)) = false := by decide) : PEv X (.Name x pos) (bC d) := ev_const (pe_glob hg hm r hdb) hd
def GInt (mg : Str → Option Value) (x : Str) (i : Int) : Prop := ∃ t, mg x = some (.int i t)
def GStr (mg : Str → Option Value) (x : Str) (l : List Nat) : Prop := ∃ t, mg x = some (.str ⟨l.toArray⟩ t)
theorem ev_gint {i : Int} (h : GInt X.mg x i) (hg : Gl X x) (hdb : (x == ("__debug__" : Str)) = false := by decide) : PEv X (.Name x pos) (bC (.int i)) := by
  obtain ⟨t, h⟩ := h
  exact ev_glob (v := V.int i) hg h ⟨t, rfl⟩ (fun _ => rfl) hdb
theorem ev_gstr {l : List Nat} (h : GStr X.mg x l) (hg : Gl X x) (hdb : (x == ("__debug__" : Str)) = false := by decide) : PEv X (.Name x pos) (bC (.str l)) := by
  obtain ⟨t, h⟩ := h
  exact ev_glob (v := V.str ⟨l.toArray⟩) hg h ⟨t, rfl⟩ (fun _ => rfl) hdb
theorem gv_n (i : Nat) (hN : X.N.Nodup) (hi : X.N[i]? = some x := by rfl) (hx : Loc X.env.scope x := by first | exact Or.inl rfl | exact Or.inr rfl) (hf : X.fn x = true ∨ X.env.scope.names.lookup x = some .local := by first | exact .inl rfl | exact .inr rfl) : PGv X (.Name x pos) (bName i) [i] :=
  gv_of (pg_name hN hi hx hf) gd_name
inductive NmTs (X : Cx) : List Expr → List Nat → Prop
  | nil : NmTs X [] []
  | cons {x : Str} {pos : Pos} {i : Nat} {es : List Expr} {is : List Nat} : PG X (.Name x pos) (gName i) → NmTs X es is → NmTs X (.Name x pos :: es) (i :: is)
theorem NmTs.pgs {es : List Expr} {is : List Nat} (h : NmTs X es is) : PGs X es (gNames is) := by
  induction h with
  | nil => exact pgs_nil
  | cons h _ ih => exact pgs_cons h ih
theorem gt_n (i : Nat) (hN : X.N.Nodup) (hi : X.N[i]? = some x := by rfl) (hx : Loc X.env.scope x := by first | exact Or.inl rfl | exact Or.inr rfl) (hf : X.fn x = true ∨ X.env.scope.names.lookup x = some .local := by first | exact .inl rfl | exact .inr rfl) : PG X (.Name x pos) (gName i) := pg_name hN hi hx hf
theorem gv_tup {es : List Expr} {is : List Nat} {k : Nat} (hc : X.calm = true) (h : NmTs X es is) (hn : (assignEach es X.env).length = is.length := by rfl) (hst : (assignEach es X.env).findIdx? (·.1) = none := by rfl) : PGv X (.Tuple es k pos) (bTup is) is :=
  gv_of (pg_tup hc h.pgs hn hst) (gd_tup rfl)
theorem sv_n (i : Nat) (hN : X.N.Nodup) (he : PEv X e fa) (hi : X.N[i]? = some x := by rfl) (hx : Loc X.env.scope x := by first | exact Or.inl rfl | exact Or.inr rfl) (hs : swapsWith e (some (.Name x pos')) pos.line X.env = pure false := by rfl)
    (hf : X.fn x = true ∨ X.env.scope.names.lookup x = some .local := by first | exact .inl rfl | exact .inr rfl) : PSv X (.Assign [.Name x pos'] e pos) (sSet i fa) := sv_set he (ps_set hN hi hx he hs hf)
theorem ev_tupE {j : Nat} (h : PAv X es fs) : PEv X (.Tuple es j pos) (bTupE fs) := ev_tup h (pe_tup h)
theorem ev_lstE (h : PAv X es fs) : PEv X (.List es pos) (bLstE fs) := ev_lst h (pe_lst h)
theorem ev_join {o : Expr} {fo : Ex} {apos cpos : Pos} (ho : PEv X o fo) (ha : PAv X (e :: es) fs) (hbase : attributeBase o "join" X.env (eval o X.env) = eval o X.env := by rfl)
    (hfew : ((backTo cpos (starEach (e :: es) X.env)).all (fun x => !x.1) && (backToKw cpos (keywordEach [] X.env)).all (fun x => x.1.isSome)
      && decide ((e :: es).length + ([] : List Keyword).length + (if ([] : List Keyword).isEmpty then 0 else 1) < 30)) = true := by rfl)
    (hline : (apos.endLine == cpos.line) = true := by rfl) (hs : starEach (e :: es) X.env = (false, eval e X.env) :: starEach es X.env := by rfl) (hplain : (backTo cpos (starEach es X.env)).any (·.1) = false := by rfl) :
    PEv X (.Call (.Attribute o "join" apos) (e :: es) [] cpos) (bMt joinD fo fs) :=
  PE.imp (pe_bm PySem.F.plainAttrs_str PySem.F.slot_str_join PySem.F.type_str_join mt_join ho ha hbase hfew hline hs hplain) fun _ _ _ h => read_mt mtd_join h
theorem ev_sindex {o : Expr} {fo : Ex} {apos cpos : Pos} (ho : PEv X o fo) (ha : PAv X (e :: es) fs) (hbase : attributeBase o "index" X.env (eval o X.env) = eval o X.env := by rfl)
    (hfew : ((backTo cpos (starEach (e :: es) X.env)).all (fun x => !x.1) && (backToKw cpos (keywordEach [] X.env)).all (fun x => x.1.isSome)
      && decide ((e :: es).length + ([] : List Keyword).length + (if ([] : List Keyword).isEmpty then 0 else 1) < 30)) = true := by rfl)
    (hline : (apos.endLine == cpos.line) = true := by rfl) (hs : starEach (e :: es) X.env = (false, eval e X.env) :: starEach es X.env := by rfl) (hplain : (backTo cpos (starEach es X.env)).any (·.1) = false := by rfl) :
    PEv X (.Call (.Attribute o "index" apos) (e :: es) [] cpos) (bMt sindexD fo fs) :=
  PE.imp (pe_bm PySem.F.plainAttrs_str PySem.F.slot_str_index PySem.F.type_str_index mt_sindex ho ha hbase hfew hline hs hplain) fun _ _ _ h => read_mt mtd_sindex h
theorem ev_append {i : Nat} {p1 apos cpos : Pos} (ho : PE X (.Name x p1) (tVar i)) (ha : PAv X (e :: es) fs) (hbase : attributeBase (.Name x p1) "append" X.env (eval (.Name x p1) X.env) = eval (.Name x p1) X.env := by rfl)
    (hfew : ((backTo cpos (starEach (e :: es) X.env)).all (fun x => !x.1) && (backToKw cpos (keywordEach [] X.env)).all (fun x => x.1.isSome)
      && decide ((e :: es).length + ([] : List Keyword).length + (if ([] : List Keyword).isEmpty then 0 else 1) < 30)) = true := by rfl)
    (hline : (apos.endLine == cpos.line) = true := by rfl) (hs : starEach (e :: es) X.env = (false, eval e X.env) :: starEach es X.env := by rfl) (hplain : (backTo cpos (starEach es X.env)).any (·.1) = false := by rfl) :
    PEv X (.Call (.Attribute (.Name x p1) "append" apos) (e :: es) [] cpos) (bMu i appendD fs) :=
  PE.imp (pe_bm PySem.F.plainAttrs_list PySem.F.slot_list_append PySem.F.type_list_append mt_append ho ha hbase hfew hline hs hplain) fun _ _ _ h => read_mu mud_append h
theorem ev_extend {i : Nat} {p1 apos cpos : Pos} (ho : PE X (.Name x p1) (tVar i)) (ha : PAv X (e :: es) fs) (hbase : attributeBase (.Name x p1) "extend" X.env (eval (.Name x p1) X.env) = eval (.Name x p1) X.env := by rfl)
    (hfew : ((backTo cpos (starEach (e :: es) X.env)).all (fun x => !x.1) && (backToKw cpos (keywordEach [] X.env)).all (fun x => x.1.isSome)
      && decide ((e :: es).length + ([] : List Keyword).length + (if ([] : List Keyword).isEmpty then 0 else 1) < 30)) = true := by rfl)
    (hline : (apos.endLine == cpos.line) = true := by rfl) (hs : starEach (e :: es) X.env = (false, eval e X.env) :: starEach es X.env := by rfl) (hplain : (backTo cpos (starEach es X.env)).any (·.1) = false := by rfl) :
    PEv X (.Call (.Attribute (.Name x p1) "extend" apos) (e :: es) [] cpos) (bMu i extendD fs) :=
  PE.imp (pe_bm PySem.F.plainAttrs_list PySem.F.slot_list_extend PySem.F.type_list_extend mt_extend ho ha hbase hfew hline hs hplain) fun _ _ _ h => read_mu mud_extend h
theorem ev_popAt {i : Nat} {p1 apos cpos : Pos} (ho : PE X (.Name x p1) (tVar i)) (ha : PAv X (e :: es) fs) (hbase : attributeBase (.Name x p1) "pop" X.env (eval (.Name x p1) X.env) = eval (.Name x p1) X.env := by rfl)
    (hfew : ((backTo cpos (starEach (e :: es) X.env)).all (fun x => !x.1) && (backToKw cpos (keywordEach [] X.env)).all (fun x => x.1.isSome)
      && decide ((e :: es).length + ([] : List Keyword).length + (if ([] : List Keyword).isEmpty then 0 else 1) < 30)) = true := by rfl)
    (hline : (apos.endLine == cpos.line) = true := by rfl) (hs : starEach (e :: es) X.env = (false, eval e X.env) :: starEach es X.env := by rfl) (hplain : (backTo cpos (starEach es X.env)).any (·.1) = false := by rfl) :
    PEv X (.Call (.Attribute (.Name x p1) "pop" apos) (e :: es) [] cpos) (bMu i popAtD fs) :=
  PE.imp (pe_bm PySem.F.plainAttrs_list PySem.F.slot_list_pop PySem.F.type_list_pop mt_popAt ho ha hbase hfew hline hs hplain) fun _ _ _ h => read_mu mud_popAt h
theorem sv_put {i : Nat} {p1 ipos : Pos} {k : Expr} (ho : PE X (.Name x p1) (tVar i)) (hk : PEv X k fb) (he : PEv X e fa) (hs : swapsWithSole [.Subscript (.Name x p1) k ipos] e pos.line X.env = pure false := by rfl) (hw : swappedStores [.Subscript (.Name x p1) k ipos] e X.env = pure none := by rfl) (h1 : (assignEach [.Subscript (.Name x p1) k ipos] X.env).map (·.2) = [assign (.Subscript (.Name x p1) k ipos) X.env] := by rfl)
    (ha : ∀ v, assign (.Subscript (.Name x p1) k ipos) X.env v = (do
      let ov ← holding [v] (eval (.Name x p1) X.env)
      let iv ← holding [v, ov] (eval k X.env)
      standAt ipos
      holding [v, ov, iv] (setItem ov iv v)
      release [v, ov, iv] []) := by intro _; rfl) :
    PSv X (.Assign [.Subscript (.Name x p1) k ipos] e pos) (sPut i fb fa) := PS.imp (ps_asg (ev_fz he) (pg_sub ho hk set_list ha) hs hw h1) fun D σ H h => read_put h
structure DefOk (P : Program) (w : World) (K : PySem.W.Frag) (mg : Str → Option Value) (base : Heap) (x : Str) (k : Nat) (ps : List Str) (F : Fx) : Prop where
  ex : ∃ (f : Addr) (fd : FuncData), mg x = some (.ref f) ∧ PySem.W.keepIn K (.ref f) = true ∧ Binds K fd ps [] ∧ FnOk P w K mg base CX0 k f fd ps (spV K F)
structure DF (K : PySem.W.Frag) (mg : Str → Option Value) (x : Str) (st : Stmt) : Prop where
  ex : ∃ (f : Addr) (fd : FuncData), mg x = some (.ref f) ∧ Fun K x x st f fd
theorem def_of {P : Program} {w : World} {K : PySem.W.Frag} {mg : Str → Option Value} {base : Heap} {x : Str} {st : Stmt} {ps : List Str} {k : Nat} {F : Fx} (T : DF K mg x st) (h : ∀ (f : Addr) (fd : FuncData), Fun K x x st f fd → FnOk P w K mg base CX0 k f fd ps (spV K F))
    (hb : ∀ (kV doc pm : Value) (an : Option Addr) (cdv ct : Value) (us : List Value), us.length = ps.length →
      bindArgs (PySem.W.fnOf x x (defArgs st) (defBody st) (defScope st) .none kV doc pm an cdv ct) ⟨us, []⟩ = pure (ps.zip us)) : DefOk P w K mg base x k ps F := by
  obtain ⟨f, fd, hm, G⟩ := T.ex
  exact ⟨f, fd, hm, G.kp, G.binds hb, h f fd G⟩
theorem ev_call {k : Nat} {ps : List Str} {F : Fx} (h : DefOk X.prog X.w X.K X.mg X.base x k ps F) (hr : Room k X.A) (ha : PAv X (e :: es) fs) (hg : Gl X x := by rfl) (hdb : (x == ("__debug__" : Str)) = false := by decide)
    (he : starEach (e :: es) X.env = (false, eval e X.env) :: starEach es X.env := by rfl) (hpl : (backTo pos (starEach es X.env)).any (·.1) = false := by rfl) : PEv X (.Call (.Name x p) (e :: es) [] pos) (bCall F fs) := by
  obtain ⟨f, fd, hm, hk, hb, G⟩ := h.ex
  exact PE.imp (pe_call G hr hg hm hk hb .nil pass0 ha hdb he hpl) fun σ H Q q => read_call q
end
end M
namespace M
open PySem PySem.Spec PyProof.Rows L2 TL
def mulT : D → D → Option RV
  | .tup xs, .int k => if xs.isEmpty = false ∧ 1 ≤ k ∧ k ≤ 1000 ∧ xs.length ≤ 1000 then some (.d (.tup (List.replicate k.toNat xs).flatten)) else none
  | _, _ => none
theorem tuple_mulOne (l : Addr) (items : Array Value) (n : Nat) (sl : Array (Option Value)) (dd : Option Addr) (u : Tok) :
    Meets (Builtin.«tuple.__mul__» ⟨[.ref l, .int 1 u], []⟩) (fun _ R s => s.heap.get? l = some { cls := .type "tuple", dict := dd, data := .seq items n, slots := sl } ∧
      R (.ok (.ret (Value.ref l))) s) :=
  .of_wp fun prog w A R s h => by
    obtain ⟨hp, g, d, tk, os⟩ := s
    obtain ⟨hl, h⟩ := h
    have f1 := AutoSeq1.idx_int
    have c0 : (decide ((1 : Int) < -(2 ^ 63)) || decide ((1 : Int) ≥ 2 ^ 63)) = false := by decide
    have c1 : (items.isEmpty || ((1 : Int) == 1)) = true := by simp
    wp_walk using wpAny_loadPart' hl
    exact ⟨_, rfl, h⟩
def rRep1 (K : PySem.W.Frag) : R2 := fun x y H Q => ∃ l xs, x = .ref l ∧ y = .int 1 ∧ SqT K H l xs ∧ Q (.ref l) H
theorem op_rep1 {X : Cx} : OpR X (binaryOp .Mult) (rRep1 X.K) := by
  intro pins s σ H x y v u Q I rx ry h
  obtain ⟨l, xs, rfl, rfl, hT, q⟩ := h
  cases rx
  obtain ⟨t, rfl⟩ := ry
  obtain ⟨its, r, ⟨⟨cls, dd, data, sl⟩, ho, hc, n, hd⟩, hs⟩ := I.tuple hT
  simp only at hc hd
  subst hc hd
  refine wpAny_binaryOp_repeat_ref (T := "tuple") (U := "int") (by decide) ⟨_, ho, rfl⟩ (fun s' => typeIs_int s' 1 t) noFill_tuple_mul F.fills_int_mul F.slot_int_rmul repeat_tuple F.slot_int_index.lookup
    (call_meets F.slot_int_rmul (typeIs_int s 1 t) F.entry_int_rmul (F.args_int_rmul_2 _ _) (int_rmul_tuple 1 t l its.toArray n dd sl)
      ⟨ho, rfl, ⟨_, ho, rfl⟩, call_meets F.slot_tuple_mul ⟨_, ho, rfl⟩ F.entry_tuple_mul (F.args_tuple_mul_2 _ _) (tuple_mulOne l its.toArray n sl dd t) ⟨ho, ?_⟩⟩)
  exact ⟨.ref l, H, I, rfl, q⟩
theorem RDs.rep {K : PySem.W.Frag} {G : Hp} {ds : List D} {vs : List V} (h : RDs K G ds vs) : ∀ n : Nat, RDs K G (List.replicate n ds).flatten (List.replicate n vs).flatten
  | 0 => rfl
  | n + 1 => by
    rw [List.replicate_succ, List.replicate_succ, List.flatten_cons, List.flatten_cons]
    exact h.append (RDs.rep h n)
theorem opd_mulT {K : PySem.W.Frag} : OpD K (fun x y H Q => rRep1 K x y H Q ∨ rRepT K x y H Q) mulT := by
  intro G H x y dx dy z s hx hy e Q k
  unfold mulT at e
  split at e
  · split at e
    rotate_left
    · cases e
    rename_i xs n h
    cases e
    obtain ⟨p, vs, e1, e2, e3⟩ := hx.tup s
    have hne : vs ≠ [] := fun z => by
      have := e3.length
      rw [z] at this
      have : xs = [] := List.eq_nil_of_length_eq_zero this.symm
      rw [this] at h
      exact absurd h.1 (by simp)
    by_cases h1 : n = 1
    · subst h1
      refine .inl ⟨p, vs, e1, hy.int, e2, ?_⟩
      rw [← e1]
      have : (List.replicate (1 : Int).toNat xs).flatten = xs := by simp
      rw [this] at k
      exact k _ _ (.same hx.rdT)
    · exact .inr ⟨p, n, vs, e1, hy.int, e2, hne, by omega, h.2.2.1, by rw [e3.length]; exact h.2.2.2, fun q hq => k _ _ (.tup hq (e3.rep _))⟩
  · cases e
theorem ev_mulT {X : Cx} {a b : Expr} {fa fb : Ex} {pos : Pos} (ha : PEv X a fa) (hb : PEv X b fb) : PEv X (.BinOp a .Mult b pos) (bOp mulT fa fb) := ev_op (OpR.or op_rep1 op_repT) opd_mulT ha hb
theorem CallR_or {X : Cx} {f : Value} {r r' : List V → Hp → VK → Prop} (h : CallR X f r) (h' : CallR X f r') : CallR X f (fun x H Q => r x H Q ∨ r' x H Q) := CallR.or h h'
end M
namespace M
open PySem PySem.Spec PyProof.Rows L2 TL
def iRange3 (f g h : Ex) : Ix := fun ρ => match f ρ with
  | some (.d (.int i), ρ1) => match g ρ1 with
    | some (.d (.int j), ρ2) => match h ρ2 with
      | some (.d (.int c), ρ3) => if c = -1 ∧ -(2 ^ 62) ≤ i ∧ i < 2 ^ 62 ∧ -(2 ^ 62) ≤ j ∧ j < 2 ^ 62 then some ((List.range (i - j).toNat).map fun k : Nat => D.int (i + (k : Int) * (-1)), ρ3) else none
      | _ => none
    | _ => none
  | _ => none
theorem jok_rangeC {K : PySem.W.Frag} {lo c : Int} {n : Nat} {G : Hp} : JOk K (Itc lo c n) G ((List.range n).map fun k : Nat => D.int (lo + (k : Int) * c)) := fun H i s => by
  refine ⟨fun h => by
    have h : i < n := by simpa using h
    exact h, fun h => by
    have h : n ≤ i := by simpa using h
    exact h, fun v H' x y e => ?_⟩
  obtain ⟨rfl, rfl⟩ := y
  simp only [List.getElem?_map] at e
  rw [List.getElem?_range (by
    by_cases h : i < n
    · exact h
    · rw [List.getElem?_eq_none (by simpa using h)] at e; cases e)] at e
  cases e
  exact .same rfl
section
variable {X : Cx} {a b c e : Expr} {es : List Expr} {fa fb fc : Ex} {fs : Ax} {pos p : Pos} {x : Str}
theorem iv_range3 {tg : Expr} (hg : Gl X "range") (hm : X.mg "range" = none) (h : PEv X a fa) (h2 : PEv X b fb) (h3 : PEv X c fc) (hst : starEach [a, b, c] X.env = (false, eval a X.env) :: starEach [b, c] X.env := by rfl) (hst2 : starEach [b, c] X.env = (false, eval b X.env) :: starEach [c] X.env := by rfl)
    (hst3 : starEach [c] X.env = (false, eval c X.env) :: starEach [] X.env := by rfl) (hpl : (backTo pos (starEach [b, c] X.env)).any (·.1) = false := by rfl) :
    PIv X tg (.Call (.Name "range" p) [a, b, c] [] pos) (iRange3 fa fb fc) := by
  refine iv_of (pi_range3 hg hm (pa_cons h (pa_cons h2 (pa_cons h3 pa_nil hst3) hst2) hst) hst hpl) fun σ H R h => ?_
  obtain ⟨F, G, ρ, xs, ρ', R0, e, k⟩ := h
  unfold iRange3 at e
  split at e
  rotate_left
  · cases e
  rename_i i ρ1 e1
  split at e
  rotate_left
  · cases e
  rename_i j ρ2 e2
  split at e
  rotate_left
  · cases e
  rename_i c ρ3 e3
  split at e
  rotate_left
  · cases e
  rename_i hb
  cases e
  obtain ⟨hc, b1, b2, b3, b4⟩ := hb
  subst hc
  refine ⟨F, G, ρ, _, ρ1, R0, e1, fun v G1 H1 s1 R1 q1 => ⟨F, G1, ρ1, _, ρ2, R1, e2, fun w G2 H2 s2 R2 q2 => ⟨F, G2, ρ2, _, _, R2, e3, fun u G3 H3 s3 R3 q3 => ?_⟩⟩⟩
  cases (show v = .int i from q1)
  cases (show w = .int j from q2)
  cases (show u = .int (-1) from q3)
  exact ⟨i, j, -1, _, rfl, RgC.neg b1 b2 b3 b4, k _ H3 G3 ((s1.trans s2).trans s3) R3 jok_rangeC⟩
theorem sv_setComp2 {elt tg iter tg1 iter1 : Expr} {ifs ifs1 : List Expr} {scope : Scope} {own : List (Str × Nat)} {vs1 : List Nat} {pos spos : Pos} {it it1 : Ix} {bind bind1 : Bx} {is is1 : List Nat} {cond cond1 : Tx} {fe : Ex} {i : Nat} {y : Str} {py : Pos} (hc : X.calm = true) (hN : X.N.Nodup) (hy : X.N[i]? = some y) (hyl : X.env.scope.names.lookup y = some .local)
    (hsw : swapsWith (.ListComp elt [⟨tg, iter, ifs, 0⟩, ⟨tg1, iter1, ifs1, 0⟩] scope pos) (some (.Name y py)) spos.line X.env = pure true) (ok : BlkOk X.N X.env.scope scope own) (hi : PIv X tg iter it)
    (hg : ∀ (s : Shared) (H : Hp) (C : Addr) (cl : List (Str × Addr)) (fp : List Addr), PGv (X.blk s H scope (compEnvC scope cl C X.env) fp) tg bind is)
    (ht : ∀ (s : Shared) (H : Hp) (C : Addr) (cl : List (Str × Addr)) (fp : List Addr), PTsv (X.blk s H scope (compEnvC scope cl C X.env) fp) ifs cond)
    (hi1 : ∀ (s : Shared) (H : Hp) (C : Addr) (cl : List (Str × Addr)) (fp : List Addr), PIv (X.blk s H scope (compEnvC scope cl C X.env) fp) tg1 iter1 it1)
    (hg1 : ∀ (s : Shared) (H : Hp) (C : Addr) (cl : List (Str × Addr)) (fp : List Addr), PGv (X.blk s H scope (compEnvC scope cl C X.env) fp) tg1 bind1 is1)
    (ht1 : ∀ (s : Shared) (H : Hp) (C : Addr) (cl : List (Str × Addr)) (fp : List Addr), PTsv (X.blk s H scope (compEnvC scope cl C X.env) fp) ifs1 cond1)
    (he : ∀ (s : Shared) (H : Hp) (C : Addr) (cl : List (Str × Addr)) (fp : List Addr), PEv (X.blk s H scope (compEnvC scope cl C X.env) fp) elt fe)
    (his : (is.all fun i => (own.map (·.2)).contains i) = true := by rfl) (his1 : (is1.all fun i => vs1.contains i) = true := by rfl) (hvs : (vs1.all fun i => (own.map (·.2)).contains i) = true := by rfl)
    (hs : ∀ x, foldedSetIterable iter X.env x = pure x := by intro _; rfl) (hs1 : ∀ env x, foldedSetIterable iter1 env x = pure x := by intro _ _; rfl) :
    PSv X (.Assign [.Name y py] (.ListComp elt [⟨tg, iter, ifs, 0⟩, ⟨tg1, iter1, ifs1, 0⟩] scope pos) spos) (sSet i (bComp2 it (own.map (·.2)) vs1 bind cond it1 bind1 cond1 fe)) := by
  have hv : ∀ i ∈ vs1, i ∈ own.map (·.2) := fun i hi => by
    rw [List.all_eq_true] at hvs
    exact List.contains_iff_mem.mp (hvs i hi)
  refine PS.imp (ps_setLc2 (g := tG X.K bind is) (tt := tT X.K cond) (wi1 := tIt X.K it1) (g1 := tG X.K bind1 is1) (tt1 := tT X.K cond1) (te := tE X.K (bFz fe)) hc hN hy hyl hsw hi ok hv hg ht hi1 hg1 ht1 (fun s H C cl fp => ev_fz (he s H C cl fp)) hs hs1) fun D σ H h => ?_
  obtain ⟨F, G, ρ, fl, ρ', R, q, k⟩ := h
  unfold sSet at q
  split at q
  · cases q
  rename_i r ρ1 e1
  obtain ⟨ρ2, e2, eq⟩ := Option.map_eq_some_iff.mp q
  cases eq
  exact read_comp2 itd_self gd_self (fun i hi => by
    rw [List.all_eq_true] at his
    exact List.contains_iff_mem.mp (his i hi)) itd_self gd_self (fun i hi => by
    rw [List.all_eq_true] at his1
    exact List.contains_iff_mem.mp (his1 i hi)) hv ⟨F, G, ρ, r, ρ1, R, e1, fun v G1 H1 s1 R1 q => k _ G1 H1 s1 (R1.put q e2)⟩
def aApp (fs : Ax) (ds : List D) : Ax := fun ρ => match fs ρ with
  | none => none
  | some (rs, ρ1) => some (rs ++ ds.map RV.d, ρ1)
theorem RNs.app {K : PySem.W.Frag} {G : Hp} {σ : Sg} {ds : List D} {us : List V} (hd : RDs K G ds us) : ∀ {rs : List RV} {vs : List V}, RNs K G σ rs vs → RNs K G σ (rs ++ ds.map RV.d) (vs ++ us)
  | [], vs, h => by
    cases h
    have : ∀ {ds : List D} {us : List V}, RDs K G ds us → RNs K G σ (ds.map RV.d) us := by
      intro ds
      induction ds with
      | nil => intro us h; exact h
      | cons d ds ih =>
        rintro us ⟨x, xs, e1, e2, e3⟩
        exact ⟨x, xs, e1, e2, ih e3⟩
    exact this hd
  | r :: rs, vs, ⟨x, xs, e1, e2, e3⟩ => by
    subst e1
    exact ⟨x, xs ++ us, rfl, e2, RNs.app hd e3⟩
theorem read_callD {K : PySem.W.Frag} {f : Fx} {fs : Ax} {ds : List D} {dvs : List V} {E : XK} {σ : Sg} {H : Hp} {Q : VK} (hd : ∀ G, RDs K G ds dvs) (h : tE K (bCall f (aApp fs ds)) σ H Q) : tCall (spV K f) dvs E (tAr K fs) σ H Q := by
  have h := read_call (E := E) h
  obtain ⟨F, G, ρ, rs, ρ', R, e, k⟩ := h
  unfold aApp at e
  split at e
  · cases e
  rename_i rs0 ρ1 e1
  cases e
  refine ⟨F, G, ρ, rs0, _, R, e1, fun vs G1 H1 s1 R1 q1 => ?_⟩
  have this : spV K f ((vs ++ dvs) ++ []) H1 Q E := k (vs ++ dvs) G1 H1 s1 R1 (RNs.app (hd G1) q1)
  rw [List.append_nil] at this
  exact this
structure DefD (P : Program) (w : World) (K : PySem.W.Frag) (mg : Str → Option Value) (base : Heap) (x : Str) (k : Nat) (ps : List Str) (dvs : List V) (F : Fx) : Prop where
  ex : ∃ (f : Addr) (fd : FuncData), mg x = some (.ref f) ∧ PySem.W.keepIn K (.ref f) = true ∧ (∀ j, j ≤ dvs.length → ∃ ds, Vals (dvs.drop j) ds ∧ Binds K fd ps ds) ∧ FnOk P w K mg base CX0 k f fd ps (spV K F)
theorem ev_callD {k : Nat} {ps : List Str} {F : Fx} {dvs : List V} {ds : List D} (h : DefD X.prog X.w X.K X.mg X.base x k ps dvs F) (j : Nat) (hj : j ≤ dvs.length) (hd : ∀ G, RDs X.K G ds (dvs.drop j)) (hr : Room k X.A) (ha : PAv X (e :: es) fs) (hg : Gl X x := by rfl) (hdb : (x == ("__debug__" : Str)) = false := by decide)
    (he : starEach (e :: es) X.env = (false, eval e X.env) :: starEach es X.env := by rfl) (hpl : (backTo pos (starEach es X.env)).any (·.1) = false := by rfl) : PEv X (.Call (.Name x p) (e :: es) [] pos) (bCall F (aApp fs ds)) := by
  obtain ⟨f, fd, hm, hk, hb, G⟩ := h.ex
  obtain ⟨us, hu, hb⟩ := hb j hj
  exact PE.imp (pe_call G hr hg hm hk hb hu pass0 ha hdb he hpl) fun σ H Q q => read_callD hd q
structure DFD (K : PySem.W.Frag) (mg : Str → Option Value) (x : Str) (st : Stmt) (dvs : List V) : Prop where
  ex : ∃ (f : Addr) (fd : FuncData), mg x = some (.ref f) ∧ FunD K x x (defArgs st) (defBody st) (defScope st) dvs [] f fd
theorem fnD_ok {P : Program} {w : World} {K : PySem.W.Frag} {mg : Str → Option Value} {base : Heap} {x qual : Str} {pa : Arguments} {bd : List Stmt} {sc : Scope} {dvs : List V} {f : Addr} {fd : FuncData} {N ps : List Str} {k : Nat} {body : Sx} (F : FunD K x qual pa bd sc dvs [] f fd) (S : FnScope N ps sc)
    (hb : ∀ (cdv : Value) (A : Around) (outer : List Env) (s : Shared) (H : Hp) (E : XK), Room k (A.deeper (envOfC qual sc s.heap.objs.size f cdv)) →
      PBv (cxOf CX0 P w K mg base N qual sc f cdv A outer s H E).nox bd body) : FnOk P w K mg base CX0 (k + 1) f fd ps (spV K (runB N.length ps.length body)) := by
  have hl : ∀ args r as, runB N.length ps.length body args = some (r, as) → args.length = ps.length := fun args r as e => by
    unfold runB at e
    split at e
    · assumption
    · cases e
  refine F.ok S (fun vs H Q E h => ?_) (fun cdv A outer s H vs Q E hr h => ⟨tS K body, (hb cdv A outer s H E hr).nox, ?_⟩)
  · obtain ⟨F, G, args, r, as, R, ht, e, q⟩ := h
    have := R.len
    rw [← hl args r as e]
    simpa using this.symm
  · exact fn_body h
end
end M
namespace M
open PySem PySem.Spec PyProof.Rows L2 TL
def sNever : Sx := fun _ => none
theorem sv_never {X : Cx} {st : Stmt} : PSv X st sNever := PS.imp ps_never fun D σ H h => by
  obtain ⟨F, G, ρ, fl, ρ', R, q, k⟩ := h
  cases q
section
variable {X : Cx} {a b c e : Expr} {es : List Expr} {fa fb fc : Ex} {fs : Ax} {pos p p1 p2 tpos : Pos} {x y z : Str}
def bIsi2 (T U : String) (f : Ex) : Ex := fun ρ => match f ρ with
  | none => none
  | some (r, ρ1) => match pk ρ1 r.nrm with
    | none => none
    | some d => match tyD d with
      | none => none
      | some A => match kitB A T, kitB A U with
        | some true, _ => some (.d (.bl true), ρ1)
        | some false, some b => some (.d (.bl b), ρ1)
        | _, _ => none
theorem kit_any2 {K : PySem.W.Frag} {A T U : String} {b c : Bool} (h1 : kitB A T = some b) (h2 : b = true ∧ c = true ∨ b = false ∧ kitB A U = some c) : PySem.W.kitAny K (.type A) [.type T, .type U] = some c := by
  have e1 := kit_ty (K := K) h1
  unfold PySem.W.kitAny
  rw [e1]
  rcases h2 with ⟨rfl, rfl⟩ | ⟨rfl, h2⟩
  · rfl
  · have e2 := kit_ty (K := K) h2
    show PySem.W.kitAny K (.type A) [.type U] = some c
    unfold PySem.W.kitAny
    rw [e2]
    cases c <;> rfl
theorem ev_isi2 {T U : String} {j : Nat} (hg : Gl X "isinstance") (hm : X.mg "isinstance" = none) (hT : PE X (.Name y p1) (tC (.ty T))) (hU : PE X (.Name z p2) (tC (.ty U))) (ha : PEv X a fa)
    (he : starEach [a, .Tuple [.Name y p1, .Name z p2] j tpos] X.env = (false, eval a X.env) :: starEach [.Tuple [.Name y p1, .Name z p2] j tpos] X.env := by rfl) (hpl : (backTo pos (starEach [.Tuple [.Name y p1, .Name z p2] j tpos] X.env)).any (·.1) = false := by rfl)
    (he2 : starEach [.Tuple [.Name y p1, .Name z p2] j tpos] X.env = (false, eval (.Tuple [.Name y p1, .Name z p2] j tpos) X.env) :: starEach [] X.env := by rfl)
    (he3 : starEach [.Name y p1, .Name z p2] X.env = (false, eval (.Name y p1) X.env) :: starEach [.Name z p2] X.env := by rfl) (he4 : starEach [.Name z p2] X.env = (false, eval (.Name z p2) X.env) :: starEach [] X.env := by rfl) :
    PEv X (.Call (.Name "isinstance" p) [a, .Tuple [.Name y p1, .Name z p2] j tpos] [] pos) (bIsi2 T U fa) :=
  PE.imp (pe_callB call_isiT hg hm PyProof.Rows.boot_isinstance (pa_cons ha (pa_cons (pe_tup (pa_cons hT (pa_cons hU pa_nil he4) he3)) pa_nil he2) he) (by decide) (by decide) he hpl) fun σ H Q h => by
    obtain ⟨F, G, ρ, r, ρ', R, q, k⟩ := h
    unfold bIsi2 at q
    split at q
    · cases q
    rename_i ra ρ1 e1
    split at q
    · cases q
    rename_i d e2
    split at q
    · cases q
    rename_i A e3
    refine ⟨F, G, ρ, ra, ρ1, R, e1, fun v G1 H1 s1 R1 q1 => ?_⟩
    obtain ⟨G1', t1, R1', n1⟩ := nrm_step R1 q1
    refine ⟨by show 2 ≤ sizeLine; rw [sizeLine_num]; decide, fun l hl => ?_⟩
    have R2 : Rep X.K F (upd G1' l (.tup [.ty T, .ty U])) (upd H1 l (.tup [.ty T, .ty U])) σ ρ1 := R1'.newG hl
    have ro := pk_ro R2 (n1.mono (Same.updN (R1'.gNone hl))) e2
    have fin : ∀ b : Bool, (PySem.W.kitAny X.K (.type A) [.type T, .type U] = some b) → q = q → (some (r, ρ') = some (RV.d (.bl b), ρ1)) → rIsiT X.K [v, .ref l] (upd H1 l (.tup [.ty T, .ty U])) Q := fun b hb _ hr => by
      cases hr
      exact ⟨v, l, [.ty T, .ty U], .type A, [.type T, .type U], b, rfl, upd_same, .cons (.ty T) (.cons (.ty U) .nil), ty_of R2.gh ro e3, hb, k _ _ _ ((s1.trans t1).trans (Same.updN (R1'.gNone hl))) R2 rfl⟩
    split at q
    · rename_i h1
      exact fin true (kit_any2 h1 (.inl ⟨rfl, rfl⟩)) rfl q.symm
    · rename_i b h1 h2
      exact fin b (kit_any2 h1 (.inr ⟨rfl, h2⟩)) rfl q.symm
    · cases q
def bFld (f : Str) (fa : Ex) : Ex := fun ρ => match fa ρ with
  | some (.d (.ins _ ns xs), ρ1) => ((ns.zip xs).lookup f).map fun d => (.d d, ρ1)
  | _ => none
theorem look_rds {K : PySem.W.Frag} {G : Hp} {f : Str} {d : D} : ∀ {ns : List Str} {xs : List D} {fs : List (Str × V)}, fs.map (·.1) = ns → RDs K G xs (fs.map (·.2)) → (ns.zip xs).lookup f = some d → f ∈ ns ∧ ∃ v, fs.lookup f = some v ∧ RD K G d v
  | [], xs, fs, _, _, e => by simp at e
  | n :: ns, [], fs, _, _, e => by simp at e
  | n :: ns, x :: xs, [], h, _, _ => by simp at h
  | n :: ns, x :: xs, (m, v) :: fs, h, ⟨u, us, e1, e2, e3⟩, e => by
    simp only [List.map_cons, List.cons.injEq] at h e1
    obtain ⟨rfl, h⟩ := h
    obtain ⟨rfl, rfl⟩ := e1
    simp only [List.zip_cons_cons, List.lookup_cons] at e ⊢
    by_cases hf : (f == m) = true
    · rw [hf] at e ⊢
      cases e
      exact ⟨by rw [eq_of_beq hf]; exact List.mem_cons_self, v, rfl, e2⟩
    · have hf : (f == m) = false := by simpa using hf
      rw [hf] at e ⊢
      obtain ⟨h1, v', h2, h3⟩ := look_rds h e3 e
      exact ⟨List.mem_cons_of_mem _ h1, v', h2, h3⟩
theorem ev_fld {f : Str} (ha : PEv X a fa) (hb : attributeBase a f X.env (eval a X.env) = eval a X.env := by rfl) : PEv X (.Attribute a f pos) (bFld f fa) := PE.imp (pe_fld ha hb) fun σ H Q h => by
  obtain ⟨F, G, ρ, r, ρ', R, q, k⟩ := h
  unfold bFld at q
  split at q
  rotate_left
  · cases q
  rename_i nm ns xs ρ1 e1
  obtain ⟨d, ez, eq⟩ := Option.map_eq_some_iff.mp q
  cases eq
  refine ⟨F, G, ρ, _, _, R, e1, fun v G1 H1 s1 R1 q1 => ?_⟩
  obtain ⟨a, C, dx, fs, rfl, h1, h2, h3, h4, h5⟩ := q1
  obtain ⟨hf, u, h6, h7⟩ := look_rds h4 h5 ez
  exact ⟨a, C, dx, fs, u, rfl, R1.gh _ _ h1, h2, h3 f hf, h6, k u G1 H1 s1 R1 h7⟩
end
structure Ob (K : PySem.W.Frag) (F : Fm) (G H : Hp) (σ : Sg) (ρ : Sl) (o C dx : Addr) (fs : List (Str × D)) (fv : List (Str × V)) : Prop where
  rep : Rep K F G H σ ρ
  hp : H o = some (.ins C dx fv)
  gp : G o = none
  fp : F.hp o = none
  ns : ∀ i b ys, oAt ρ i b ys → ¬ vAt σ i (.ref o)
  nm : fv.map (·.1) = fs.map (·.1)
  rds : RDs K G (fs.map (·.2)) (fv.map (·.2))
abbrev Ib := Sl → List (Str × D) → Option (Fl × Sl × List (Str × D))
def tI (K : PySem.W.Frag) (o C dx : Addr) (f : Ib) : TS := fun D σ H => ∃ F G ρ fs fv fl ρ' fs', Ob K F G H σ ρ o C dx fs fv ∧ f ρ fs = some (fl, ρ', fs') ∧
  ∀ σ' G' H' fv', Same G G' → Ob K F G' H' σ' ρ' o C dx fs' fv' → match fl with
    | .nx => D.nx σ' H'
    | _ => False
def PIb (X : Cx) (o C dx : Addr) (st : List Stmt) (f : Ib) : Prop := PSs X st (tI X.K o C dx f)
theorem Ob.lend {K : PySem.W.Frag} {F : Fm} {G H : Hp} {σ : Sg} {ρ : Sl} {o C dx : Addr} {fs : List (Str × D)} {fv : List (Str × V)} (a : Ob K F G H σ ρ o C dx fs fv) : Rep K ⟨upd F.hp o (.ins C dx fv), F.par⟩ G H σ ρ := a.rep.lend a.hp a.gp a.ns
theorem Ob.of {K : PySem.W.Frag} {F : Fm} {G H G0 : Hp} {σ : Sg} {ρ : Sl} {o C dx : Addr} {fs : List (Str × D)} {fv : List (Str × V)} (R : Rep K ⟨upd F.hp o (.ins C dx fv), F.par⟩ G H σ ρ) (fp : F.hp o = none) (nm : fv.map (·.1) = fs.map (·.1)) (r : RDs K G0 (fs.map (·.2)) (fv.map (·.2))) (s : Same G0 G) : Ob K F G H σ ρ o C dx fs fv := by
  obtain ⟨R', h1, h2, h3⟩ := R.back fp
  exact ⟨R', h1, h2, fp, h3, nm, RDs.mono s _ _ r⟩
def iSt (f : Sx) (g : Ib) : Ib := fun ρ fs => match f ρ with
  | some (.nx, ρ1) => g ρ1 fs
  | _ => none
def iNil : Ib := fun ρ fs => some (.nx, ρ, fs)
def putD (f : Str) (d : D) : List (Str × D) → List (Str × D)
  | [] => [(f, d)]
  | (n, x) :: r => if n = f then (n, d) :: r else (n, x) :: putD f d r
def selfAt (ρ : Sl) (o : Addr) : Bool := match ρ[0]? with
  | some (some (SV.d (D.ptr (V.ref q)))) => decide (q = o)
  | _ => false
def iFld (o : Addr) (f : Str) (fe : Ex) (g : Ib) : Ib := fun ρ fs => match bFz fe ρ with
  | some (.d d, ρ1) => if fs.length < 1000 ∧ selfAt ρ1 o = true then g ρ1 (putD f d fs) else none
  | _ => none
theorem putF_nm {f : Str} {v : V} {d : D} : ∀ {fv : List (Str × V)} {fs : List (Str × D)}, fv.map (·.1) = fs.map (·.1) → (putF f v fv).map (·.1) = (putD f d fs).map (·.1)
  | [], [], _ => rfl
  | [], _ :: _, h => by simp at h
  | _ :: _, [], h => by simp at h
  | (n, u) :: fv, (m, x) :: fs, h => by
    simp only [List.map_cons, List.cons.injEq] at h
    obtain ⟨rfl, h⟩ := h
    unfold putF putD
    by_cases e : n = f
    · simp [e, h]
    · simp [e, putF_nm (f := f) (v := v) (d := d) h]
theorem putF_rds {K : PySem.W.Frag} {G : Hp} {f : Str} {v : V} {d : D} (hv : RD K G d v) : ∀ {fv : List (Str × V)} {fs : List (Str × D)}, fv.map (·.1) = fs.map (·.1) → RDs K G (fs.map (·.2)) (fv.map (·.2)) → RDs K G ((putD f d fs).map (·.2)) ((putF f v fv).map (·.2))
  | [], [], _, _ => ⟨v, [], rfl, hv, rfl⟩
  | [], _ :: _, h, _ => by simp at h
  | _ :: _, [], h, _ => by simp at h
  | (n, u) :: fv, (m, x) :: fs, h, ⟨w, ws, e1, e2, e3⟩ => by
    simp only [List.map_cons, List.cons.injEq] at h e1
    obtain ⟨rfl, h⟩ := h
    obtain ⟨rfl, rfl⟩ := e1
    unfold putF putD
    by_cases e : n = f
    · simp only [e, if_true]
      exact ⟨v, _, rfl, hv, e3⟩
    · simp only [e, if_false]
      exact ⟨u, _, rfl, e2, putF_rds hv h e3⟩
section
variable {X : Cx} {e : Expr} {st : Stmt} {rest : List Stmt} {fe : Ex} {f : Sx} {g : Ib} {o C dx : Addr} {pos pos' p1 : Pos} {fn x : Str}
theorem ib_nil : PIb X o C dx [] iNil := PSs.imp pss_nil fun D σ H h => by
  obtain ⟨F, G, ρ, fs, fv, fl, ρ', fs', a, q, k⟩ := h
  cases q
  exact k σ G H fv (Same.refl G) a
theorem ib_st (h : PSv X st f) (hr : PIb X o C dx rest g) : PIb X o C dx (st :: rest) (iSt f g) := PSs.imp (pss_cons h hr) fun D σ H h => by
  obtain ⟨F, G, ρ, fs, fv, fl, ρ', fs', a, q, k⟩ := h
  unfold iSt at q
  split at q
  rotate_left
  · cases q
  rename_i ρ1 e1
  refine ⟨_, G, ρ, .nx, ρ1, a.lend, e1, fun σ1 G1 H1 s1 R1 => ?_⟩
  exact ⟨F, G1, ρ1, fs, fv, fl, ρ', fs', Ob.of R1 a.fp a.nm a.rds s1, q, fun σ2 G2 H2 fv' s2 a2 => k σ2 G2 H2 fv' (s1.trans s2) a2⟩
theorem ib_fld (hc : Cls X.K C) (hn : NoAttr X.K C fn) (he : PEv X e fe) (ho : PE X (.Name x p1) (tVar 0)) (hr : PIb X o C dx rest g)
    (hs : swapsWith e (some (.Attribute (.Name x p1) fn pos')) pos.line X.env = pure false := by rfl) :
    PIb X o C dx (.Assign [.Attribute (.Name x p1) fn pos'] e pos :: rest) (iFld o fn fe g) :=
  PSs.imp (pss_cons (ps_fld ho (ev_fz he) hs) hr) fun D σ H h => by
  obtain ⟨F, G, ρ, fs, fv, fl, ρ', fs', a, q, k⟩ := h
  unfold iFld at q
  split at q
  rotate_left
  · cases q
  rename_i d ρ1 e1
  split at q
  rotate_left
  · cases q
  rename_i hl
  have hρ : dAt ρ1 0 (.ptr (.ref o)) := by
    have hz := hl.2
    unfold selfAt at hz
    split at hz
    · rename_i q' e'
      rw [← of_decide_eq_true hz]; exact e'
    · cases hz
  refine ⟨_, G, ρ, _, ρ1, a.lend, e1, fun v G1 H1 s1 R1 q1 => ?_⟩
  have a1 := Ob.of R1 a.fp a.nm a.rds s1
  obtain ⟨v0, w1, w2⟩ := a1.rep.dat 0 _ hρ
  cases (show v0 = .ref o from w2)
  refine ⟨.ref o, w1, o, C, dx, fv, rfl, a1.hp, hc, hn, ?_, ?_⟩
  · have := congrArg List.length a1.nm
    simp at this; omega
  · exact ⟨F, G1, ρ1, putD fn d fs, putF fn v fv, fl, ρ', fs', ⟨a1.rep.poke a1.gp a1.fp a1.ns, upd_same, a1.gp, a1.fp, a1.ns, putF_nm a1.nm, putF_rds q1 a1.nm a1.rds⟩, q, fun σ2 G2 H2 fv' s2 a2 => k σ2 G2 H2 fv' (s1.trans s2) a2⟩
end
def runI (n : Nat) (B : Ib) (o : Addr) (ds : List D) : Option (List (Str × D)) := match B ((some (.d (.ptr (.ref o))) :: ds.map fun d => some (.d d)) ++ List.replicate (n - (ds.length + 1)) none) [] with
  | some (.nx, _, fs) => some fs
  | _ => none
def spI (K : PySem.W.Frag) (C : Addr) (m : Nat) (g : List D → Option (List (Str × D))) : Sp := fun vs H Q E => ∃ o dx us F G ds fs, vs = .ref o :: us ∧ ds.length = m ∧ H o = some (.ins C dx []) ∧ G o = none ∧ F.hp o = none ∧ Rep K F G H [] [] ∧ RDs K G ds us ∧ g ds = some fs ∧
  ∀ G' H' fv, Same G G' → Ob K F G' H' [] [] o C dx fs fv → Q .non H'
theorem rds_rep {K : PySem.W.Frag} {F : Fm} {G H : Hp} (R : Rep K F G H [] []) {ds : List D} {us : List V} (h : RDs K G ds us) (n : Nat) : Rep K F G H (us.map some ++ List.replicate n none) ((ds.map fun d => some (SV.d d)) ++ List.replicate n none) := by
  have e : (ds.map fun d => some (SV.d d)) = (ds.map SV.d).map some := by rw [List.map_map]; rfl
  rw [e]
  have hget : ∀ {i : Nat} {x : SV}, (ds.map SV.d)[i]? = some x → ∃ d, x = .d d ∧ ds[i]? = some d := fun {i x} q => by
    rw [List.getElem?_map] at q
    obtain ⟨d, h1, h2⟩ := Option.map_eq_some_iff.mp q
    exact ⟨d, h2.symm, h1⟩
  refine ⟨R.gh, R.fh, R.fg, by simp [h.length], fun i x q => ?_, fun i b xs q => ?_, fun i j p b c xs ys _ q => ?_⟩
  · obtain ⟨d, h1, h2⟩ := hget (at_ext.mp q)
    cases h1
    obtain ⟨v, h3, h4⟩ := h.get h2
    exact ⟨v, at_ext.mpr h3, h4⟩
  · obtain ⟨d, h1, _⟩ := hget (at_ext.mp q)
    cases h1
  · obtain ⟨d, h1, _⟩ := hget (at_ext.mp q)
    cases h1
theorem Rep.nil {K : PySem.W.Frag} {F : Fm} {G H : Hp} {σ : Sg} {ρ : Sl} (R : Rep K F G H σ ρ) : Rep K F G H [] [] :=
  ⟨R.gh, R.fh, R.fg, rfl, fun i x q => (by cases q), fun i b x q => (by cases q), fun i j p b c xs ys _ q => (by cases q)⟩
theorem init_ok {P : Program} {w : World} {K : PySem.W.Frag} {mg : Str → Option Value} {base : Heap} {x qual : Str} {st : Stmt} {f C : Addr} {fd : FuncData} {N ps : List Str} {k : Nat} {g : List D → Option (List (Str × D))} {B : Addr → Ib} (hp : 1 ≤ ps.length) (F : Fun K x qual st f fd) (S : FnScope N ps (defScope st))
    (hg : ∀ o ds fs, ds.length + 1 = ps.length → g ds = some fs → runI N.length (B o) o ds = some fs)
    (hb : ∀ (o dx : Addr) (cdv : Value) (A : Around) (outer : List Env) (s : Shared) (H : Hp) (E : XK), Room k (A.deeper (envOfC qual (defScope st) s.heap.objs.size f cdv)) →
      PIb (cxOf CX0 P w K mg base N qual (defScope st) f cdv A outer s H E).nox o C dx (defBody st) (B o)) : FnOk P w K mg base CX0 (k + 1) f fd ps (spI K C (ps.length - 1) g) := by
  have hps : ∀ {ds : List D}, ds.length = ps.length - 1 → 1 ≤ ps.length → ds.length + 1 = ps.length := fun h h1 => by omega
  refine F.ok S (fun vs H Q E h => ?_) (fun cdv A outer s H vs Q E hr h => ?_)
  · obtain ⟨o, dx, us, F, G, ds, fs, rfl, hl, h1, h2, h3, R, hr, e, q⟩ := h
    have := hr.length
    simp; omega
  · obtain ⟨o, dx, us, F, G, ds, fs, rfl, hl, h1, h2, h3, R, hr', e, q⟩ := h
    refine ⟨_, hb o dx cdv A outer s H E hr, ?_⟩
    have er := hg o ds fs (hps hl hp) e
    unfold runI at er
    split at er
    rotate_left
    · cases er
    rename_i ρ' fs' e1
    cases er
    have hr2 : RDs K G (.ptr (.ref o) :: ds) (.ref o :: us) := ⟨_, _, rfl, rfl, hr'⟩
    have R0 := rds_rep R hr2 (N.length - (ds.length + 1))
    have hst : L2.start N (.ref o :: us) = (V.ref o :: us).map some ++ List.replicate (N.length - (ds.length + 1)) none := by
      unfold L2.start
      simp [hr'.length]
    rw [hst]
    refine ⟨F, G, _, [], [], .nx, ρ', fs, ⟨R0, h1, h2, h3, fun i b ys o1 => ?_, rfl, rfl⟩, e1, fun σ' G' H' fv' s' a' => ?_⟩
    · have e : ((.ptr (.ref o) :: ds).map fun d => some (SV.d d)) = ((.ptr (.ref o) :: ds).map SV.d).map some := by rw [List.map_map]; rfl
      rw [e] at o1
      have q := at_ext.mp o1
      rw [List.getElem?_map] at q
      obtain ⟨d, _, h2⟩ := Option.map_eq_some_iff.mp q
      cases h2
    · exact q G' H' fv' s' ⟨a'.rep.nil, a'.hp, a'.gp, a'.fp, fun i b ys q => (by cases q), a'.nm, a'.rds⟩
end M
namespace M
open PySem PySem.Spec PyProof.Rows L2 TL
structure MkOk (P : Program) (w : World) (K : PySem.W.Frag) (mg : Str → Option Value) (base : Heap) (x : Str) (k m : Nat) (g : List D → Option (List (Str × D))) : Prop where
  ex : ∃ (C f : Addr) (fd : FuncData) (ps : List Str), mg x = some (.ref C) ∧ Mk K C f ∧ Cls K C ∧ Binds K fd ps [] ∧ FnOk P w K mg base CX0 k f fd ps (spI K C m g) ∧ ∀ ds fs, g ds = some fs → ∀ n ∈ fs.map (·.1), NoAttr K C n
def bMk (nm : Str) (m : Nat) (g : List D → Option (List (Str × D))) (fs : Ax) : Ex := fun ρ => match fs ρ with
  | none => none
  | some (rs, ρ1) => match dsOf rs with
    | none => none
    | some ds => if ds.length = m then (g ds).map fun r => (.d (.ins nm (r.map (·.1)) (r.map (·.2))), ρ1) else none
section
variable {X : Cx} {a b c e : Expr} {es : List Expr} {fa fb fc : Ex} {fs : Ax} {pos p p1 p2 tpos : Pos} {x y z : Str}
theorem ev_make {k m : Nat} {g : List D → Option (List (Str × D))} {nm : Str} (h : MkOk X.prog X.w X.K X.mg X.base x k m g) (hr : Room (k + 1) X.A) (ha : PAv X (e :: es) fs) (hg : Gl X x := by rfl) (hdb : (x == ("__debug__" : Str)) = false := by decide)
    (he : starEach (e :: es) X.env = (false, eval e X.env) :: starEach es X.env := by rfl) (hpl : (backTo pos (starEach es X.env)).any (·.1) = false := by rfl) : PEv X (.Call (.Name x p) (e :: es) [] pos) (bMk nm m g fs) := by
  obtain ⟨C, f, fd, ps, hm, hM, hC, hb, G0, hn⟩ := h.ex
  refine PE.imp (pe_make hM G0 hr hg hm hb .nil pass0 ha hdb he hpl) fun σ H Q h => ?_
  obtain ⟨F, G, ρ, r, ρ', R, q, k⟩ := h
  unfold bMk at q
  split at q
  · cases q
  rename_i rs ρ1 e1
  split at q
  · cases q
  rename_i ds e2
  split at q
  rotate_left
  · cases q
  rename_i hl
  obtain ⟨fds, ez, eq⟩ := Option.map_eq_some_iff.mp q
  cases eq
  refine ⟨F, G, ρ, rs, _, R, e1, fun vs G1 H1 s1 R1 q1 => fun o dx ho hdx hne => ?_⟩
  rw [List.append_nil]
  have hr1 := ds_of q1 e2
  have go := R1.gNone ho
  have gd := R1.gNone hdx
  have H2o : (upd (upd H1 dx (.own o)) o (.ins C dx [])) o = some (.ins C dx []) := upd_same
  let H2 : Hp := upd (upd H1 dx (.own o)) o (.ins C dx [])
  have old : ∀ b u, H1 b = some u → H2 b = some u := fun b u z => by
    show upd (upd H1 dx (.own o)) o (.ins C dx []) b = some u
    rw [upd_ne (ne_of_none z ho), upd_ne (ne_of_none z hdx)]; exact z
  let F' : Fm := ⟨fun b => if G1 b = none ∧ b ≠ o then H2 b else none, F.par⟩
  have pf : ∀ b u, G1 b = none → b ≠ o → H2 b = some u → F'.hp b = some u := fun b u z1 z2 z3 => by
    show (if G1 b = none ∧ b ≠ o then H2 b else none) = some u
    rw [if_pos ⟨z1, z2⟩]; exact z3
  have fp : ∀ b u, F'.hp b = some u → G1 b = none ∧ b ≠ o ∧ H2 b = some u := fun b u z => by
    have z : (if G1 b = none ∧ b ≠ o then H2 b else none) = some u := z
    split at z
    · rename_i w; exact ⟨w.1, w.2, z⟩
    · cases z
  have R2 : Rep X.K F' G1 H2 [] [] := ⟨fun b u z => old b u (R1.gh b u z), fun b u z => (fp b u z).2.2, fun b u z => (fp b u z).1, rfl, fun i x q => (by cases q), fun i b x q => (by cases q), fun i j p b c xs ys _ q => (by cases q)⟩
  refine ⟨o, dx, vs, F', G1, ds, fds, rfl, hl, H2o, go, ?_, R2, hr1, ez, fun G' H' fv s' ob => ⟨rfl, ?_⟩⟩
  · show (if G1 o = none ∧ o ≠ o then H2 o else none) = none
    rw [if_neg (fun z => z.2 rfl)]
  · have sG := Same.updN (o := .ins C dx fv) ob.gp
    have at1 : ∀ b u, H1 b = some u → G1 b = none → H' b = some u ∧ (upd G' o (.ins C dx fv)) b = none := fun b u z1 z2 => by
      have hb : b ≠ o := ne_of_none z1 ho
      have z := pf b u z2 hb (old b u z1)
      exact ⟨ob.rep.fh b u z, by rw [upd_ne hb]; exact ob.rep.fg b u z⟩
    refine k (.ref o) (upd G' o (.ins C dx fv)) H' ((s1.trans s').trans sG) ⟨fun b u z => ?_, fun b u z => (at1 b u (R1.fh b u z) (R1.fg b u z)).1, fun b u z => (at1 b u (R1.fh b u z) (R1.fg b u z)).2, R1.len, fun i x z => ?_, fun i b xs z => ?_, R1.sep⟩ ?_
    · unfold upd at z
      split at z <;> rename_i hb
      · cases z; rw [hb]; exact ob.hp
      · exact ob.rep.gh b u z
    · obtain ⟨v, w1, w2⟩ := R1.dat i x z
      exact ⟨v, w1, RD.mono (s'.trans sG) _ _ w2⟩
    · obtain ⟨p, us, w1, w2, w3, w4, w5, w6⟩ := R1.own i b xs z
      obtain ⟨y1, y2⟩ := at1 p _ w2 w3
      exact ⟨p, us, w1, y1, y2, w4, RDs.mono (s'.trans sG) _ _ w5, w6⟩
    · exact ⟨o, C, dx, fv, rfl, upd_same, hC, hn ds fds ez, ob.nm, RDs.mono sG _ _ ob.rds⟩
def PKv (X : Cx) (kws : List Keyword) (f : Ax) : Prop := PK X kws (tAr X.K f)
theorem kv_nil : PKv X [] aNil := ⟨fun pos pins s σ H Q I h => by
  obtain ⟨F, G, ρ, rs, ρ', R, e, k⟩ := h
  cases e
  exact pk_nil.run pos pins s σ H Q I (k [] G H (Same.refl G) R rfl)⟩
theorem PK.imp {X : Cx} {e : List Keyword} {t t' : TA} (h : PK X e t) (i : ∀ σ H Q, t' σ H Q → t σ H Q) : PK X e t' := ⟨fun pos pins s σ H Q I q => h.run pos pins s σ H Q I (i σ H Q q)⟩
theorem kv_cons {kws : List Keyword} {n : Option Str} {kpos : Pos} {f : Ax} (he : PEv X e fa) (hs : PKv X kws f) : PKv X (⟨n, e, kpos⟩ :: kws) (aCons fa f) := PK.imp (pk_cons he hs) fun σ H Q h => by
  obtain ⟨F, G, ρ, rs, ρ', R, q, k⟩ := h
  unfold aCons at q
  split at q
  · cases q
  rename_i ra ρ1 e1
  split at q
  · cases q
  rename_i rb ρ2 e2
  cases q
  refine ⟨F, G, ρ, ra, ρ1, R, e1, fun x G1 H1 s1 R1 q1 => ?_⟩
  obtain ⟨G1', t1, R1', n1⟩ := nrm_step R1 q1
  refine ⟨F, G1', ρ1, rb, _, R1', e2, fun ys G2 H2 s2 R2 q2 => ?_⟩
  exact k _ G2 H2 ((s1.trans t1).trans s2) R2 ⟨x, ys, rfl, n1.mono s2, q2⟩
structure DefKw (P : Program) (w : World) (K : PySem.W.Frag) (mg : Str → Option Value) (base : Heap) (x : Str) (k : Nat) (ps : List Str) (n : Nat) (F : Fx) : Prop where
  ex : ∃ (f : Addr) (fd : FuncData), mg x = some (.ref f) ∧ PySem.W.keepIn K (.ref f) = true ∧ KBn K fd ps n (ps.drop n) (fun us ws => us ++ ws) (fun vs zs => vs ++ zs) ∧ FnOk P w K mg base CX0 k f fd ps (spV K F)
theorem def_kw {P : Program} {w : World} {K : PySem.W.Frag} {mg : Str → Option Value} {base : Heap} {x : Str} {st : Stmt} {ps : List Str} {k n : Nat} {F : Fx} (T : DF K mg x st) (h : ∀ (f : Addr) (fd : FuncData), Fun K x x st f fd → FnOk P w K mg base CX0 k f fd ps (spV K F))
    (hb : ∀ (kV doc pm : Value) (an : Option Addr) (cdv ct : Value) (us ws : List Value), us.length = n → ws.length = (ps.drop n).length →
      bindArgs (PySem.W.fnOf x x (defArgs st) (defBody st) (defScope st) .none kV doc pm an cdv ct) ⟨us, (ps.drop n).zip ws⟩ = pure (ps.zip (us ++ ws))) : DefKw P w K mg base x k ps n F := by
  obtain ⟨f, fd, hm, G⟩ := T.ex
  refine ⟨f, fd, hm, G.kp, ⟨fun s us ws _ l1 l2 => ?_, fun r1 r2 => r1.append r2⟩, h f fd G⟩
  obtain ⟨oc, od, kV, doc, pm, an, cdv, ct, osl, rfl, lk, hcd⟩ := G.ex
  exact .of_eq (hb kV doc pm an cdv ct us ws l1 l2)
theorem ev_callK0 {kws : List Keyword} {k : Nat} {ps : List Str} {F : Fx} (h : DefKw X.prog X.w X.K X.mg X.base x k ps 0 F) (hr : Room k X.A) (ha : PKv X kws fs) (hg : Gl X x := by rfl)
    (hall : (backToKw pos (keywordEach kws X.env)).all (·.1.isSome) = true := by rfl) (hks : (backToKw pos (keywordEach kws X.env)).filterMap (·.1) = ps := by rfl)
    (hdb : (x == ("__debug__" : Str)) = false := by decide)
    (hpl : ((backTo pos (starEach [] X.env)).any (·.1) || (backToKw pos (keywordEach kws X.env)).any (·.1.isNone)) = false := by rfl) : PEv X (.Call (.Name x p) [] kws pos) (bCall F fs) := by
  obtain ⟨f, fd, hm, hk, hb, G0⟩ := h.ex
  refine ⟨fun pins s σ H Q I h => ?_⟩
  have h := read_call (E := E0) h
  refine wpAny_Call_Name_kw (ld_glob I hg hm ?_ hdb)
  refine PySem.W.callWith_KW0 (h₀ := X.base) I.ok.mod.kin hk hall (thn (ha.run pos pins s σ H _ I h) fun ws s2 ⟨zs, H2, I2, rz, q2⟩ => ⟨I2.kIn, ?_⟩) hpl
  rw [hks]
  have q2 : spV X.K F (zs ++ []) H2 Q E0 := q2
  rw [List.append_nil] at q2
  have hl : zs.length = ps.length := G0.len _ _ _ _ q2
  exact run_fnN (ps := ps) (ks := ps) (gV := fun vs zs => vs ++ zs) (us := []) (vs := []) G0 hr hb pass0 I2 .nil rz rfl hl q2
end
end M
namespace M
open PySem PySem.Spec PyProof.Rows L2 TL
section
variable {P : Program} {w : World} {K : PySem.W.Frag} {mg : Str → Option Value} {base : Heap}
def F_none : Fx := fun _ => none
theorem fn_none {x qual : Str} {st : Stmt} {f : Addr} {fd : FuncData} {N ps : List Str} {k : Nat} (F : Fun K x qual st f fd) (S : FnScope N ps (defScope st)) : FnOk P w K mg base CX0 (k + 1) f fd ps (spV K F_none) :=
  F.ok S (fun vs H Q E h => by
    obtain ⟨F, G, args, r, as, R, ht, e, q⟩ := h
    cases e) (fun cdv A outer s H vs Q E hr h => by
    obtain ⟨F, G, args, r, as, R, ht, e, q⟩ := h
    cases e)
noncomputable def gI (n m : Nat) (B : Addr → Ib) (ds : List D) : Option (List (Str × D)) :=
  open Classical in if ds.length = m ∧ ∀ o, runI n (B o) o ds = runI n (B 0) 0 ds then runI n (B 0) 0 ds else none
theorem gI_run {n m : Nat} {B : Addr → Ib} {ds : List D} {fs : List (Str × D)} (o : Addr) (h : gI n m B ds = some fs) : runI n (B o) o ds = some fs := by
  unfold gI at h
  split at h
  · rename_i z; rw [z.2]; exact h
  · cases h
theorem gI_of {n m : Nat} {B : Addr → Ib} {ds : List D} {fs : List (Str × D)} (hl : ds.length = m) (h : ∀ o, runI n (B o) o ds = some fs) : gI n m B ds = some fs := by
  unfold gI
  rw [if_pos ⟨hl, fun o => by rw [h, h]⟩, h]
def inNames (ns : List Str) (fs : List (Str × D)) : Prop := ∀ n ∈ fs.map (·.1), n ∈ ns
structure MkF (K : PySem.W.Frag) (mg : Str → Option Value) (x qual : Str) (st : Stmt) (ns : List Str) : Prop where
  ex : ∃ (C f : Addr) (fd : FuncData), mg x = some (.ref C) ∧ Mk K C f ∧ Cls K C ∧ Fun K "__init__" qual st f fd ∧ ∀ n ∈ ns, NoAttr K C n
def gIn (ns : List Str) (g : List D → Option (List (Str × D))) : List D → Option (List (Str × D)) := fun ds => match g ds with
  | some fs => if (fs.map (·.1)).all (fun n => ns.contains n) = true then some fs else none
  | none => none
theorem gIn_run {ns : List Str} {g : List D → Option (List (Str × D))} {ds : List D} {fs : List (Str × D)} (h : gIn ns g ds = some fs) : g ds = some fs ∧ ∀ n ∈ fs.map (·.1), n ∈ ns := by
  unfold gIn at h
  split at h
  · rename_i fs' e
    split at h
    · rename_i z
      cases h
      refine ⟨e, fun n hn => ?_⟩
      rw [List.all_eq_true] at z
      exact List.contains_iff_mem.mp (z n hn)
    · cases h
  · cases h
theorem mk_of {x qual : Str} {st : Stmt} {ns ps : List Str} {k : Nat} {g : List D → Option (List (Str × D))} (T : MkF K mg x qual st ns)
    (h : ∀ (C f : Addr) (fd : FuncData), Cls K C → (∀ n ∈ ns, NoAttr K C n) → Fun K "__init__" qual st f fd → FnOk P w K mg base CX0 k f fd ps (spI K C (ps.length - 1) (gIn ns g)))
    (hb : ∀ (kV doc pm : Value) (an : Option Addr) (cdv ct : Value) (us : List Value), us.length = ps.length →
      bindArgs (PySem.W.fnOf "__init__" qual (defArgs st) (defBody st) (defScope st) .none kV doc pm an cdv ct) ⟨us, []⟩ = pure (ps.zip us)) : MkOk P w K mg base x k (ps.length - 1) (gIn ns g) := by
  obtain ⟨C, f, fd, hm, hM, hC, F, hn⟩ := T.ex
  exact ⟨C, f, fd, ps, hm, hM, hC, F.binds hb, h C f fd hC hn F, fun ds fs e n z => hn n ((gIn_run e).2 n z)⟩
theorem defD_of {x : Str} {st : Stmt} {ps : List Str} {k n : Nat} {dvs : List V} {F : Fx} (T : DFD K mg x st dvs) (h : ∀ (f : Addr) (fd : FuncData), FunD K x x (defArgs st) (defBody st) (defScope st) dvs [] f fd → FnOk P w K mg base CX0 k f fd ps (spV K F)) (hd : dvs ≠ []) (hn : n + dvs.length = ps.length)
    (hb : ∀ (j : Nat), j ≤ dvs.length → ∀ (T : Addr) (kV doc pm : Value) (an : Option Addr) (cdv ct : Value) (us its : List Value), us.length = n + j → its.length = dvs.length →
      ∃ k, bindArgs (PySem.W.fnOf x x (defArgs st) (defBody st) (defScope st) (.ref T) kV doc pm an cdv ct) ⟨us, []⟩ = seqItems? (.ref T) >>= k ∧ k (some its.toArray) = pure (ps.zip (us ++ its.drop j))) : DefD P w K mg base x k ps dvs F := by
  obtain ⟨f, fd, hm, G⟩ := T.ex
  exact ⟨f, fd, hm, G.kp, fun j hj => G.binds1 (n + j) j hd (by omega) (hb j hj), h f fd G⟩
end
end M
namespace M
open PySem PySem.Spec PyProof.Rows L2 TL
theorem pe_cls {X : Cx} {x : Str} {pos : Pos} {T : String} (hg : Gl X x) (hm : X.mg x = none) (hv : bootBuiltins x = some (.type T)) (hn : x ≠ "__name__" := by decide) (hd : (x == ("__debug__" : Str)) = false := by decide) : PE X (.Name x pos) (tC (.ty T)) :=
  pe_bltn hg hm hv (show RelV (.ty T) (.type T) from rfl) hn hd
end M
namespace M
open PySem PySem.Spec PyProof.Rows L2 TL
section
variable {K : PySem.W.Frag} {h : Heap} {mg : Str → Option Value}
theorem free_of (X : K.In h) (G : h.Ns mainGlobals mg) {x : Str} (a : PySem.W.nsIn K mainGlobals x = some none) : mg x = none := PySem.W.mg_none_of X G a
theorem gint_of (X : K.In h) (G : h.Ns mainGlobals mg) {x : Str} {i j : Int} {t : Tok} (a : PySem.W.nsIn K mainGlobals x = some (some (.int j t))) (e : j = i) : GInt mg x i := ⟨t, e ▸ PySem.W.mg_of X G a⟩
theorem gstr_of (X : K.In h) (G : h.Ns mainGlobals mg) {x : Str} {s : Str} {l : List Nat} {t : Tok} (a : PySem.W.nsIn K mainGlobals x = some (some (.str s t))) (e : s = ⟨l.toArray⟩) : GStr mg x l := ⟨t, e ▸ PySem.W.mg_of X G a⟩
theorem df_of (X : K.In h) (G : h.Ns mainGlobals mg) {x : Str} {st : Stmt} {f : Addr} {od an : Option Addr} {sl : Array (Option Value)} {oc kV dc pm cd ct : Value} (a : PySem.W.nsIn K mainGlobals x = some (some (.ref f)))
    (l : K.lookup f = some ⟨oc, od, .func (PySem.W.fnOf x x (defArgs st) (defBody st) (defScope st) .none kV dc pm an cd ct), sl⟩) (c : PySem.W.codeIn K cd x = true) (k : PySem.W.keepIn K (.ref f) = true) : DF K mg x st :=
  ⟨f, _, PySem.W.mg_of X G a, fun_mk l c k⟩
theorem dfd_of (X : K.In h) (G : h.Ns mainGlobals mg) {x : Str} {st : Stmt} {f T : Addr} {od an : Option Addr} {sl : Array (Option Value)} {oc kV dc pm cd ct : Value} {o : Obj} {its : List Value} {n : Nat} {dvs : List V} (a : PySem.W.nsIn K mainGlobals x = some (some (.ref f)))
    (l : K.lookup f = some ⟨oc, od, .func (PySem.W.fnOf x x (defArgs st) (defBody st) (defScope st) (.ref T) kV dc pm an cd ct), sl⟩) (c : PySem.W.codeIn K cd x = true) (k : PySem.W.keepIn K (.ref f) = true)
    (l2 : K.lookup T = some o) (e : o.data = .seq its.toArray n) (hd : dvs ≠ []) (hv : Vals dvs its) : DFD K mg x st dvs :=
  ⟨f, _, PySem.W.mg_of X G a, ⟨oc, od, .ref T, kV, dc, pm, an, cd, ct, sl, rfl, l, c, .inr ⟨hd, T, _, its, n, rfl, l2, e, hv⟩, .inl rfl⟩, k⟩
theorem mkf_of (X : K.In h) (G : h.Ns mainGlobals mg) {x qual : Str} {st : Stmt} {C f : Addr} {od an : Option Addr} {sl : Array (Option Value)} {oc kV dc pm cd ct : Value} {ns : List Str} (a : PySem.W.nsIn K mainGlobals x = some (some (.ref C)))
    (a1 : PySem.W.findIn K (.ref C) "__init__" = some (some (.ref f))) (i1 : PySem.W.isFn K (.ref f) = true) (l : K.lookup f = some ⟨oc, od, .func (PySem.W.fnOf "__init__" qual (defArgs st) (defBody st) (defScope st) .none kV dc pm an cd ct), sl⟩) (c : PySem.W.codeIn K cd qual = true) (k : PySem.W.keepIn K (.ref f) = true)
    (pg : PySem.W.plainGet K C Str.empty = true) (hd : PySem.W.hasDictIn K C = true) (po : PySem.W.plainOver K C = true) (sa : PySem.W.findIn K (.ref C) "__setattr__" = some (some (.builtin "object.__setattr__"))) (mk : PySem.W.makesIn K C = true) (kc : PySem.W.keepIn K (.ref C) = true)
    (hn : ∀ n ∈ ns, PySem.W.findIn K (.ref C) n = some none) : MkF K mg x qual st ns :=
  ⟨C, f, _, PySem.W.mg_of X G a, ⟨mk, a1, i1, kc⟩, ⟨pg, hd, po, sa⟩, fun_mk l c k, hn⟩
end
theorem law_fd {l : PySem.W.OpenLaw} {w : World} {K : PySem.W.Frag} {h : Heap} {mg : Str → Option Value} {fa f : Addr} {k : Nat} {st : Stmt} {FL : Fx} (X : K.In h) (G : h.Ns mainGlobals mg) (hfa : mg "law" = some (.ref fa)) {od an : Option Addr} {sl : Array (Option Value)} {oc kV dc pm cd ct : Value}
    (a : PySem.W.nsIn K mainGlobals "law" = some (some (.ref f)))
    (l1 : K.lookup f = some ⟨oc, od, .func (PySem.W.fnOf "law" "law" (defArgs st) (defBody st) (defScope st) .none kV dc pm an cd ct), sl⟩) (c : PySem.W.codeIn K cd "law" = true) (kp : PySem.W.keepIn K (.ref f) = true)
    (hb : ∀ (s : Shared) (v : Value), BindsTo s (PySem.W.fnOf "law" "law" (defArgs st) (defBody st) (defScope st) .none kV dc pm an cd ct) ⟨[v], []⟩ [("script", v)])
    (H : ∀ (base : Heap) (f : Addr) (fd : FuncData), Fun K "law" "law" st f fd → FnOk l.prog w K mg base CX0 k f fd ["script"] (spV K FL)) :
    ∃ fd : FuncData, (∀ (s : Shared) (v : Value), BindsTo s fd ⟨[v], []⟩ [("script", v)]) ∧ ∀ base : Heap, K.In base → base.Ns mainGlobals mg → FnOk l.prog w K mg base CX0 k fa fd ["script"] (spV K FL) := by
  have e := hfa.symm.trans (PySem.W.mg_of X G a)
  cases e
  exact ⟨_, hb, fun base _ _ => H base _ _ (fun_mk l1 c kp)⟩
theorem rds_ints {K : PySem.W.Frag} {G : Hp} : ∀ ns : List Int, RDs K G (ns.map D.int) (ns.map V.int)
  | [] => rfl
  | n :: ns => ⟨_, _, rfl, rfl, rds_ints ns⟩
theorem law_walk {l : PySem.W.OpenLaw} {n k : Nat} {q : Program} {loose : List Str} {XP : (Str → Option Value) → Heap → Prop} {YP : World → Heap → Prop} {d : DefRec} {K : Params → PySem.W.Frag} (FL : Fx) (hn : l.most = some n) (hn2 : n ≤ sizeLine) (hdf : d.params.defaults = []) (hr : Room k callerA)
    (hY : ∀ (w : World) (h : Heap), YP w h → (K w.params).In h)
    (F : ∀ (w : World) (mg : Str → Option Value) (fa : Addr) (h : Heap), (K w.params).In h → h.Ns mainGlobals mg → mg d.name = some (.ref fa) →
      ∃ fd : FuncData, (∀ (s : Shared) (u : Value), BindsTo s fd ⟨[u], []⟩ [("script", u)]) ∧ ∀ base : Heap, (K w.params).In base → base.Ns mainGlobals mg → FnOk l.prog w (K w.params) mg base CX0 k fa fd ["script"] (spV (K w.params) FL))
    (hlaw : ∀ ns : List Int, ns.length ≤ n → ∃ as, FL [.d (.scr (ns.map .int))] = some (.d (.bl true), as)) :
    PySem.W.WalkO q loose XP YP l.row.toRowW d [] (fun f vs => PySem.call f vs) := by
  refine L2.walk_of (n := n) (k := k) (x := "script") (CX := fun _ => CX0) (sp := fun w => spV (K w.params) FL) hn hn2 hdf hr hY F (fun w H a ns hl _ hS => ?_) fun _ _ _ _ _ z => z
  obtain ⟨as, e⟩ := hlaw ns hl
  refine ⟨⟨fun _ => none, fun _ => none⟩, H, [.d (.scr (ns.map .int))], _, as, ⟨fun b o z => z, fun b o z => (by cases z), fun b o z => (by cases z), rfl, fun i x z => ?_, fun i b xs z => ?_, fun i j p b c xs ys hij z1 z2 z3 z4 => ?_⟩, fun j b xs z => ?_, e, fun v G' H' _ _ r => r⟩
  · have z := at_map.mp z
    match i, z with
    | 0, z => cases z; exact ⟨.ref a, rfl, a, _, rfl, hS, rds_ints ns⟩
    | i + 1, z => simp at z
  · have z := at_map.mp z
    match i, z with
    | 0, z => cases z
    | i + 1, z => simp at z
  · have z := at_map.mp z1
    match i, z with
    | 0, z => cases z
    | i + 1, z => simp at z
  · match j, z with
    | 0, z => cases z
    | j + 1, z => simp at z
end M
namespace M
open PySem PySem.Spec PyProof.Rows L2 TL
inductive Dep {α : Sort _} (a : α) : Type
  | mk
def okQ {α β : Type} (o : Option (α × β)) (Q : α → β → Prop) (_ : Dep Q := .mk) : Prop := match o with
  | some (r, s) => Q r s
  | none => False
section
variable {α β : Type} {Q Q' : α → β → Prop} {o : Option (α × β)}
@[simp ↓] theorem okQ_some {r : α} {s : β} : okQ (some (r, s)) Q ↔ Q r s := Iff.rfl
@[simp] theorem okQ_none : okQ (none : Option (α × β)) Q ↔ False := Iff.rfl
theorem okQ_iff : okQ o Q ↔ ∃ r s, o = some (r, s) ∧ Q r s := by
  cases o with
  | none => simp
  | some p => exact ⟨fun h => ⟨_, _, rfl, h⟩, fun ⟨r, s, e, h⟩ => by cases e; exact h⟩
theorem okQ.imp (h : okQ o Q) (i : ∀ r s, Q r s → Q' r s) : okQ o Q' := by
  cases o with
  | none => exact h
  | some p => exact i _ _ h
def oq {α : Type} (o : Option α) (P : α → Prop) (_ : Dep P := .mk) : Prop := match o with
  | some x => P x
  | none => False
@[simp ↓] theorem oq_some {α : Type} {x : α} {P : α → Prop} : oq (some x) P ↔ P x := Iff.rfl
@[simp] theorem oq_none {α : Type} {P : α → Prop} : oq (none : Option α) P ↔ False := Iff.rfl
@[simp] theorem oq_map {α β : Type} {o : Option α} {f : α → β} {P : β → Prop} : oq (o.map f) P ↔ oq o fun x => P (f x) := by cases o <;> simp
@[simp] theorem oq_ite {α : Type} {c : Prop} [Decidable c] {x : α} {P : α → Prop} : oq (if c then some x else none) P ↔ c ∧ P x := by by_cases h : c <;> simp [h]
theorem oq_iff {α : Type} {o : Option α} {P : α → Prop} : oq o P ↔ ∃ x, o = some x ∧ P x := by cases o <;> simp
def isD' (r : RV) (P : D → Prop) (_ : Dep P := .mk) : Prop := match r with | .d x => P x | _ => False
def isBl (r : RV) (P : Bool → Prop) (_ : Dep P := .mk) : Prop := match r with | .d (.bl b) => P b | _ => False
def isInt (r : RV) (P : Int → Prop) (_ : Dep P := .mk) : Prop := match r with | .d (.int b) => P b | _ => False
def isStr (r : RV) (P : List Nat → Prop) (_ : Dep P := .mk) : Prop := match r with | .d (.str b) => P b | _ => False
def isLst (r : RV) (P : List D → Prop) (_ : Dep P := .mk) : Prop := match r with | .d (.lst b) => P b | _ => False
def isTup (r : RV) (P : List D → Prop) (_ : Dep P := .mk) : Prop := match r with | .d (.tup b) => P b | _ => False
def isIns (r : RV) (P : Str → List Str → List D → Prop) (_ : Dep P := .mk) : Prop := match r with | .d (.ins a b c) => P a b c | _ => False
def isOwn (r : Option (Option SV)) (P : Bool → List D → Prop) (_ : Dep P := .mk) : Prop := match r with | some (some (.own b xs)) => P b xs | _ => False
@[simp ↓] theorem isD'_d {x : D} {P : D → Prop} : isD' (.d x) P ↔ P x := Iff.rfl
@[simp ↓] theorem isD'_own {x : List D} {P : D → Prop} : isD' (.own x) P ↔ False := Iff.rfl
@[simp ↓] theorem isD'_bor {x : Nat} {P : D → Prop} : isD' (.bor x) P ↔ False := Iff.rfl
@[simp ↓] theorem isBl_bl {x : Bool} {P : Bool → Prop} : isBl (.d (.bl x)) P ↔ P x := Iff.rfl
@[simp ↓] theorem isInt_int {x : Int} {P : Int → Prop} : isInt (.d (.int x)) P ↔ P x := Iff.rfl
@[simp ↓] theorem isStr_str {x : List Nat} {P : List Nat → Prop} : isStr (.d (.str x)) P ↔ P x := Iff.rfl
@[simp ↓] theorem isLst_lst {x : List D} {P : List D → Prop} : isLst (.d (.lst x)) P ↔ P x := Iff.rfl
@[simp ↓] theorem isTup_tup {x : List D} {P : List D → Prop} : isTup (.d (.tup x)) P ↔ P x := Iff.rfl
@[simp ↓] theorem isIns_ins {a : Str} {b : List Str} {c : List D} {P : Str → List Str → List D → Prop} : isIns (.d (.ins a b c)) P ↔ P a b c := Iff.rfl
@[simp ↓] theorem isOwn_own {b : Bool} {xs : List D} {P : Bool → List D → Prop} : isOwn (some (some (.own b xs))) P ↔ P b xs := Iff.rfl
theorem okQ.ex (h : okQ o Q) : ∃ r s, o = some (r, s) ∧ Q r s := okQ_iff.mp h
end
def wE (f : Ex) (ρ : Sl) (Q : RV → Sl → Prop) (_ : Dep Q := .mk) : Prop := okQ (f ρ) Q
def wT (f : Tx) (ρ : Sl) (Q : Bool → Sl → Prop) (_ : Dep Q := .mk) : Prop := okQ (f ρ) Q
def wA (f : Ax) (ρ : Sl) (Q : List RV → Sl → Prop) (_ : Dep Q := .mk) : Prop := okQ (f ρ) Q
def wS (f : Sx) (ρ : Sl) (Q : Fl → Sl → Prop) (_ : Dep Q := .mk) : Prop := okQ (f ρ) Q
def wI (f : Ix) (ρ : Sl) (Q : List D → Sl → Prop) (_ : Dep Q := .mk) : Prop := okQ (f ρ) Q
def wO (f : Ox) (ρ : Sl) (Q : Option Int → Sl → Prop) (_ : Dep Q := .mk) : Prop := okQ (f ρ) Q
@[irreducible] def wF (F : Fx) (as : List SV) (Q : RV → List SV → Prop) (_ : Dep Q := .mk) : Prop := okQ (F as) Q
@[irreducible] def wR (bind : Bx) (body : Sx) (xs : List D) (ρ : Sl) (Q : Fl → Sl → Prop) (_ : Dep Q := .mk) : Prop := okQ (forGo bind body xs ρ) Q
@[irreducible] def wW (c : Tx) (body : Sx) (n : Nat) (ρ : Sl) (Q : Fl → Sl → Prop) (_ : Dep Q := .mk) : Prop := okQ (whileN c body n ρ) Q
@[irreducible] def wC (vs : List Nat) (bind : Bx) (cond : Tx) (elt : Ex) (xs acc : List D) (ρ : Sl) (Q : List D → Sl → Prop) (_ : Dep Q := .mk) : Prop := okQ (compGo vs bind cond elt xs acc ρ) Q
@[irreducible] def wC2 (vs vs1 : List Nat) (bind : Bx) (cond : Tx) (it1 : Ix) (bind1 : Bx) (cond1 : Tx) (elt : Ex) (xs acc : List D) (ρ : Sl) (Q : List D → Sl → Prop) (_ : Dep Q := .mk) : Prop := okQ (comp2Go vs vs1 bind cond it1 bind1 cond1 elt xs acc ρ) Q
theorem wR_def {bind : Bx} {body : Sx} {xs : List D} {ρ : Sl} {Q : Fl → Sl → Prop} : wR bind body xs ρ Q ↔ okQ (forGo bind body xs ρ) Q := by
  unfold wR
  exact Iff.rfl
theorem wW_def {c : Tx} {body : Sx} {n : Nat} {ρ : Sl} {Q : Fl → Sl → Prop} : wW c body n ρ Q ↔ okQ (whileN c body n ρ) Q := by
  unfold wW
  exact Iff.rfl
theorem wC_def {vs : List Nat} {bind : Bx} {cond : Tx} {elt : Ex} {xs acc : List D} {ρ : Sl} {Q : List D → Sl → Prop} : wC vs bind cond elt xs acc ρ Q ↔ okQ (compGo vs bind cond elt xs acc ρ) Q := by
  unfold wC
  exact Iff.rfl
theorem wC2_def {vs vs1 : List Nat} {bind : Bx} {cond : Tx} {it1 : Ix} {bind1 : Bx} {cond1 : Tx} {elt : Ex} {xs acc : List D} {ρ : Sl} {Q : List D → Sl → Prop} : wC2 vs vs1 bind cond it1 bind1 cond1 elt xs acc ρ Q ↔ okQ (comp2Go vs vs1 bind cond it1 bind1 cond1 elt xs acc ρ) Q := by
  unfold wC2
  exact Iff.rfl
theorem wE.imp {f : Ex} {ρ : Sl} {Q Q' : RV → Sl → Prop} (h : wE f ρ Q) (i : ∀ r ρ', Q r ρ' → Q' r ρ') : wE f ρ Q' := okQ.imp h i
theorem wS.imp {f : Sx} {ρ : Sl} {Q Q' : Fl → Sl → Prop} (h : wS f ρ Q) (i : ∀ r ρ', Q r ρ' → Q' r ρ') : wS f ρ Q' := okQ.imp h i
theorem wF_def {F : Fx} {as : List SV} {Q : RV → List SV → Prop} : wF F as Q ↔ okQ (F as) Q := by
  unfold wF
  exact Iff.rfl
theorem wF_ex {F : Fx} {as : List SV} {Q : RV → List SV → Prop} (h : wF F as Q) : ∃ r as', F as = some (r, as') ∧ Q r as' := okQ.ex (wF_def.mp h)
theorem wF_eq {F : Fx} {as as' : List SV} {r : RV} {Q : RV → List SV → Prop} (e : F as = some (r, as')) (h : Q r as') : wF F as Q := wF_def.mpr (by rw [e]; exact h)
theorem wF.imp {f : Fx} {ρ : List SV} {Q Q' : RV → List SV → Prop} (h : wF f ρ Q) (i : ∀ r ρ', Q r ρ' → Q' r ρ') : wF f ρ Q' := by
  unfold wF at h ⊢
  exact okQ.imp h i
section
variable {ρ : Sl} {fa fb fc fe fk : Ex} {c d : Tx} {fs : Ax} {f g : Sx} {i j n : Nat} {QE : RV → Sl → Prop} {QT : Bool → Sl → Prop} {QA : List RV → Sl → Prop} {QS : Fl → Sl → Prop} {QI : List D → Sl → Prop} {QO : Option Int → Sl → Prop}
@[simp ↓] theorem wE_C {d : D} : wE (bC d) ρ QE ↔ QE (.d d) ρ := Iff.rfl
@[simp ↓] theorem wE_V : wE (bV i) ρ QE ↔ (match ρ[i]? with
  | some (some (.d x)) => QE (.d x) ρ
  | some (some (.own _ _)) => QE (.bor i) ρ
  | _ => False) := by
  unfold wE bV
  split <;> simp_all
@[simp ↓] theorem wE_Op {h : D → D → Option RV} : wE (bOp h fa fb) ρ QE ↔ wE fa ρ fun ra ρ1 => wE fb ρ1 fun rb ρ2 => oq (pk ρ2 ra.nrm) fun x => oq (pk ρ2 rb.nrm) fun y => oq (h x y) fun z => QE z ρ2 := by
  unfold wE bOp
  rcases fa ρ with _ | ⟨ra, ρ1⟩
  · simp
  rcases e2 : fb ρ1 with _ | ⟨rb, ρ2⟩
  · simp [e2]
  cases e3 : pk ρ2 ra.nrm <;> cases e4 : pk ρ2 rb.nrm <;> simp [e2, e3, e4]
  rename_i x y
  cases h x y <;> simp
@[simp ↓] theorem wE_Un {h : D → Option RV} : wE (bUn h fa) ρ QE ↔ wE fa ρ fun ra ρ1 => oq (pk ρ1 ra.nrm) fun x => oq (h x) fun z => QE z ρ1 := by
  unfold wE bUn
  rcases fa ρ with _ | ⟨ra, ρ1⟩
  · simp
  cases e3 : pk ρ1 ra.nrm <;> simp [e3]
  rename_i x
  cases h x <;> simp
@[simp ↓] theorem wA_nil : wA aNil ρ QA ↔ QA [] ρ := Iff.rfl
@[simp ↓] theorem wA_cons : wA (aCons fa fs) ρ QA ↔ wE fa ρ fun r ρ1 => wA fs ρ1 fun rs ρ2 => QA (r.nrm :: rs) ρ2 := by
  unfold wA wE aCons
  rcases fa ρ with _ | ⟨ra, ρ1⟩
  · simp
  rcases e2 : fs ρ1 with _ | ⟨rb, ρ2⟩ <;> simp [e2]
@[simp ↓] theorem wA_app {ds : List D} : wA (aApp fs ds) ρ QA ↔ wA fs ρ fun rs ρ1 => QA (rs ++ ds.map RV.d) ρ1 := by
  unfold wA aApp
  rcases fs ρ with _ | ⟨ra, ρ1⟩ <;> simp
@[simp ↓] theorem wE_Fn {h : List D → Option RV} : wE (bFn h fs) ρ QE ↔ wA fs ρ fun rs ρ1 => oq (pks ρ1 rs) fun ds => oq (h ds) fun z => QE z ρ1 := by
  unfold wE wA bFn
  rcases fs ρ with _ | ⟨rs, ρ1⟩
  · simp
  cases e3 : pks ρ1 rs <;> simp [e3]
  rename_i x
  cases h x <;> simp
@[simp ↓] theorem wE_Fz : wE (bFz fa) ρ QE ↔ wE fa ρ fun r ρ1 => okQ (frz r ρ1) fun x ρ2 => QE (.d x) ρ2 := by
  unfold wE bFz
  rcases fa ρ with _ | ⟨r, ρ1⟩
  · simp
  rcases e3 : frz r ρ1 with _ | ⟨x, ρ2⟩ <;> simp [e3]
@[simp] theorem frz_d {x : D} : frz (.d x) ρ = some (x, ρ) := rfl
@[simp] theorem frz_own {xs : List D} : frz (.own xs) ρ = some (.lst xs, ρ) := rfl
@[simp] theorem frz_bor : frz (.bor i) ρ = (match ρ[i]? with
    | some (some (.own false xs)) => some (.lst xs, ρ.set i (some (.d (.lst xs))))
    | _ => none) := rfl
@[simp] theorem pk_d {x : D} : pk ρ (.d x) = some x := rfl
@[simp] theorem pk_bor : pk ρ (.bor i) = (match ρ[i]? with
    | some (some (.own _ xs)) => some (.lst xs)
    | _ => none) := rfl
@[simp] theorem nrm_d {x : D} : RV.nrm (.d x) = .d x := rfl
@[simp] theorem nrm_own {x : List D} : RV.nrm (.own x) = .d (.lst x) := rfl
@[simp] theorem nrm_bor : RV.nrm (.bor i) = .bor i := rfl
@[simp] theorem pks_nil : pks ρ [] = some [] := rfl
@[simp] theorem pks_cons {r : RV} {rs : List RV} : pks ρ (r :: rs) = (match pk ρ r, pks ρ rs with
    | some x, some xs => some (x :: xs)
    | _, _ => none) := rfl
@[simp] theorem dsOf_nil : dsOf [] = some [] := rfl
@[simp] theorem dsOf_cons {x : D} {rs : List RV} : dsOf (.d x :: rs) = (dsOf rs).map fun xs => x :: xs := rfl
@[simp ↓] theorem wE_If : wE (bIf c fa fb) ρ QE ↔ wT c ρ fun b ρ1 => if b = true then wE fa ρ1 QE else wE fb ρ1 QE := by
  unfold wE wT bIf
  rcases c ρ with _ | ⟨b, ρ1⟩
  · simp
  cases b <;> simp
@[simp ↓] theorem wT_T : wT (bT fa) ρ QT ↔ wE fa ρ fun r ρ1 => isBl r fun b => QT b ρ1 := by
  unfold wE wT bT
  rcases fa ρ with _ | ⟨r, ρ1⟩
  · simp
  cases r with
  | d x => cases x <;> simp [isBl, isInt, isStr, isLst, isTup]
  | own x => simp [isBl, isInt, isStr, isLst, isTup]
  | bor x => simp [isBl, isInt, isStr, isLst, isTup]
@[simp ↓] theorem wT_And : wT (bAnd c d) ρ QT ↔ wT c ρ fun b ρ1 => if b = true then wT d ρ1 QT else QT false ρ1 := by
  unfold wT bAnd
  rcases c ρ with _ | ⟨b, ρ1⟩
  · simp
  cases b <;> simp
@[simp ↓] theorem wT_Or : wT (bOr c d) ρ QT ↔ wT c ρ fun b ρ1 => if b = true then QT true ρ1 else wT d ρ1 QT := by
  unfold wT bOr
  rcases c ρ with _ | ⟨b, ρ1⟩
  · simp
  cases b <;> simp
@[simp ↓] theorem wT_Not : wT (bNot c) ρ QT ↔ wT c ρ fun b ρ1 => QT (!b) ρ1 := by
  unfold wT bNot
  rcases c ρ with _ | ⟨b, ρ1⟩ <;> simp
@[simp ↓] theorem wT_Yes : wT bYes ρ QT ↔ QT true ρ := Iff.rfl
@[simp ↓] theorem wE_OfT : wE (bOfT c) ρ QE ↔ wT c ρ fun b ρ1 => QE (.d (.bl b)) ρ1 := by
  unfold wE wT bOfT
  rcases c ρ with _ | ⟨b, ρ1⟩ <;> simp
@[simp ↓] theorem wE_AndV : wE (bAndV fa fb) ρ QE ↔ wE fa ρ fun r ρ1 => isBl r fun b => if b = true then wE fb ρ1 QE else QE (.d (.bl false)) ρ1 := by
  unfold wE bAndV
  rcases fa ρ with _ | ⟨r, ρ1⟩
  · simp
  cases r with
  | d x => cases x <;> simp [isBl]; rename_i b; cases b <;> simp
  | own x => simp [isBl]
  | bor x => simp [isBl]
@[simp ↓] theorem wE_OrV : wE (bOrV fa fb) ρ QE ↔ wE fa ρ fun r ρ1 => isBl r fun b => if b = true then QE (.d (.bl true)) ρ1 else wE fb ρ1 QE := by
  unfold wE bOrV
  rcases fa ρ with _ | ⟨r, ρ1⟩
  · simp
  cases r with
  | d x => cases x <;> simp [isBl]; rename_i b; cases b <;> simp
  | own x => simp [isBl]
  | bor x => simp [isBl]
@[simp ↓] theorem wE_NotV : wE (bNotV fa) ρ QE ↔ wE fa ρ fun r ρ1 => isBl r fun b => QE (.d (.bl (!b))) ρ1 := by
  unfold wE bNotV
  rcases fa ρ with _ | ⟨r, ρ1⟩
  · simp
  cases r with
  | d x => cases x <;> simp [isBl, isInt, isStr, isLst, isTup]
  | own x => simp [isBl, isInt, isStr, isLst, isTup]
  | bor x => simp [isBl, isInt, isStr, isLst, isTup]
@[simp ↓] theorem wS_Nx : wS sNx ρ QS ↔ QS .nx ρ := Iff.rfl
@[simp ↓] theorem wS_Bk : wS sBk ρ QS ↔ QS .bk ρ := Iff.rfl
@[simp ↓] theorem wS_Ct : wS sCt ρ QS ↔ QS .ct ρ := Iff.rfl
@[simp ↓] theorem wS_RetN : wS sRetN ρ QS ↔ QS (.rt (.d .non)) ρ := Iff.rfl
@[simp ↓] theorem wS_Never : wS sNever ρ QS ↔ False := Iff.rfl
def thenS (g : Sx) (Q : Fl → Sl → Prop) : Fl → Sl → Prop := fun fl ρ => match fl with
  | .nx => wS g ρ Q
  | o => Q o ρ
@[simp ↓] theorem thenS_nx : thenS g QS .nx ρ ↔ wS g ρ QS := Iff.rfl
@[simp ↓] theorem thenS_bk : thenS g QS .bk ρ ↔ QS .bk ρ := Iff.rfl
@[simp ↓] theorem thenS_ct : thenS g QS .ct ρ ↔ QS .ct ρ := Iff.rfl
@[simp ↓] theorem thenS_rt {r : RV} : thenS g QS (.rt r) ρ ↔ QS (.rt r) ρ := Iff.rfl
@[simp ↓] theorem wS_Seq : wS (sSeq f g) ρ QS ↔ wS f ρ (thenS g QS) := by
  unfold wS sSeq
  rcases f ρ with _ | ⟨fl, ρ1⟩
  · simp
  cases fl <;> simp [wS]
@[simp ↓] theorem wS_If : wS (sIf c f g) ρ QS ↔ wT c ρ fun b ρ1 => if b = true then wS f ρ1 QS else wS g ρ1 QS := by
  unfold wS wT sIf
  rcases c ρ with _ | ⟨b, ρ1⟩
  · simp
  cases b <;> simp
@[simp ↓] theorem wS_Drop : wS (sDrop fa) ρ QS ↔ wE fa ρ fun _ ρ1 => QS .nx ρ1 := by
  unfold wS wE sDrop
  rcases fa ρ with _ | ⟨r, ρ1⟩ <;> simp
@[simp ↓] theorem wS_Ret : wS (sRet fa) ρ QS ↔ wE fa ρ fun r ρ1 => QS (.rt r) ρ1 := by
  unfold wS wE sRet
  rcases fa ρ with _ | ⟨r, ρ1⟩ <;> simp
@[simp] theorem putR_d {x : D} : putR i (.d x) ρ = some (ρ.set i (some (.d x))) := rfl
@[simp] theorem putR_own {x : List D} : putR i (.own x) ρ = some (ρ.set i (some (.own false x))) := rfl
@[simp ↓] theorem wS_Set : wS (sSet i fa) ρ QS ↔ wE fa ρ fun r ρ1 => oq (putR i r ρ1) fun ρ2 => QS .nx ρ2 := by
  unfold wS wE sSet
  rcases fa ρ with _ | ⟨r, ρ1⟩
  · simp
  cases e : putR i r ρ1 <;> simp [e]
def nobor : RV → Prop
  | .bor _ => False
  | _ => True
@[simp] theorem nobor_d {x : D} : nobor (.d x) ↔ True := Iff.rfl
@[simp] theorem nobor_own {x : List D} : nobor (.own x) ↔ True := Iff.rfl
@[simp ↓] theorem wA_aoCons : wA (aoCons fa fs) ρ QA ↔ wE fa ρ fun r ρ1 => nobor r ∧ wA fs ρ1 fun rs ρ2 => QA (r :: rs) ρ2 := by
  unfold wA wE aoCons
  rcases fa ρ with _ | ⟨ra, ρ1⟩
  · simp
  cases ra with
  | bor i => simp [nobor]
  | d x => rcases e2 : fs ρ1 with _ | ⟨rb, ρ2⟩ <;> simp [e2]
  | own x => rcases e2 : fs ρ1 with _ | ⟨rb, ρ2⟩ <;> simp [e2]
@[simp] theorem putRs_nil : putRs [] [] ρ = some ρ := rfl
@[simp] theorem putRs_cons {r : RV} {is : List Nat} {rs : List RV} : putRs (i :: is) (r :: rs) ρ = (match putR i r ρ with
    | none => none
    | some ρ1 => putRs is rs ρ1) := rfl
@[simp ↓] theorem wS_ParN {is : List Nat} : wS (sParN is fs) ρ QS ↔ wA fs ρ fun rs ρ1 => oq (putRs is rs ρ1) fun ρ2 => QS .nx ρ2 := by
  unfold wS wA sParN
  rcases fs ρ with _ | ⟨rs, ρ1⟩
  · simp
  cases e : putRs is rs ρ1 <;> simp [e]
@[simp ↓] theorem wS_Bind {bind : Bx} : wS (sBind bind fa) ρ QS ↔ wE (bFz fa) ρ fun r ρ1 => isD' r fun v => oq (bind v ρ1) fun ρ2 => QS .nx ρ2 := by
  unfold wS wE sBind
  rcases bFz fa ρ with _ | ⟨r, ρ1⟩
  · simp
  cases r with
  | d x => simp; cases e : bind x ρ1 <;> simp [e]
  | own x => simp
  | bor x => simp
@[simp ↓] theorem wE_Mu {h : List D → List D → Option (List D × D)} : wE (bMu i h fs) ρ QE ↔ isOwn ρ[i]? fun _ _ => wA fs ρ fun rs ρ1 => isOwn ρ1[i]? fun b xs => oq (dsOf rs) fun ds => okQ (h xs ds) fun ys z => QE (.d z) (ρ1.set i (some (.own b ys))) := by
  unfold wE wA bMu
  split
  · rename_i b ys e
    simp only [e, isOwn_own]
    rcases fs ρ with _ | ⟨rs, ρ1⟩
    · simp
    simp only [okQ_some]
    split
    · rename_i b xs e1
      simp only [e1, isOwn_own]
      cases e2 : dsOf rs with
      | none => simp
      | some ds =>
        rcases e3 : h xs ds with _ | ⟨ys', z⟩ <;> simp [e3]
    · rename_i h1
      simp only [okQ_none, false_iff]
      unfold isOwn
      split
      · rename_i e; exact (h1 _ _ e).elim
      · exact id
  · rename_i h1
    simp only [okQ_none, false_iff]
    unfold isOwn
    split
    · rename_i e; exact (h1 _ _ e).elim
    · exact id
@[simp ↓] theorem wS_Put : wS (sPut i fk fe) ρ QS ↔ wE (bFz fe) ρ fun r ρ1 => isD' r fun x => isOwn ρ1[i]? fun _ _ => wE fk ρ1 fun q ρ2 => isInt q fun k => isOwn ρ2[i]? fun b xs => oq (ixN xs.length k) fun j => QS .nx (ρ2.set i (some (.own b (xs.set j x)))) := by
  unfold wS wE sPut
  rcases bFz fe ρ with _ | ⟨r, ρ1⟩
  · simp
  cases r with
  | own x => simp
  | bor x => simp
  | d x =>
    simp only [okQ_some, isD'_d]
    split
    · rename_i b ys e
      simp only [e, isOwn_own]
      rcases fk ρ1 with _ | ⟨q, ρ2⟩
      · simp
      cases q with
      | own x => simp [isInt]
      | bor x => simp [isInt]
      | d y =>
        cases y with
        | int k =>
          simp only [okQ_some, isInt_int]
          split
          · rename_i b xs e1
            simp only [e1, isOwn_own]
            cases e2 : ixN xs.length k <;> simp
          · rename_i h1
            simp only [okQ_none, false_iff]
            unfold isOwn
            split
            · rename_i e; exact (h1 _ _ e).elim
            · exact id
        | _ => simp [isInt]
    · rename_i h1
      simp only [okQ_none, false_iff]
      unfold isOwn
      split
      · rename_i e; exact (h1 _ _ e).elim
      · exact id
@[simp ↓] theorem wO_none : wO oNone ρ QO ↔ QO none ρ := Iff.rfl
@[simp ↓] theorem wO_some : wO (oSome fa) ρ QO ↔ wE fa ρ fun r ρ1 => isInt r fun i => QO (some i) ρ1 := by
  unfold wO wE oSome
  rcases fa ρ with _ | ⟨r, ρ1⟩
  · simp
  cases r with
  | d x => cases x <;> simp [isBl, isInt, isStr, isLst, isTup]
  | own x => simp [isBl, isInt, isStr, isLst, isTup]
  | bor x => simp [isBl, isInt, isStr, isLst, isTup]
@[simp ↓] theorem wE_Sl {lo hi : Ox} : wE (bSl fa lo hi) ρ QE ↔ wE fa ρ fun ra ρ1 => wO lo ρ1 fun l ρ2 => wO hi ρ2 fun h ρ3 => oq (pk ρ3 ra.nrm) fun x => oq (slD x l h) fun z => QE z ρ3 := by
  unfold wE wO bSl
  rcases fa ρ with _ | ⟨ra, ρ1⟩
  · simp
  rcases e1 : lo ρ1 with _ | ⟨l, ρ2⟩
  · simp [e1]
  rcases e2 : hi ρ2 with _ | ⟨h, ρ3⟩
  · simp [e1, e2]
  simp only [okQ_some, e1, e2]
  cases e3 : pk ρ3 ra.nrm with
  | none => simp
  | some x =>
    cases e4 : slD x l h <;> simp [e4]
@[simp ↓] theorem wE_TupE : wE (bTupE fs) ρ QE ↔ wA fs ρ fun rs ρ1 => oq (dsOf rs) fun ds => ds.length ≤ 16777216 ∧ QE (.d (.tup ds)) ρ1 := by
  unfold wE wA bTupE
  rcases fs ρ with _ | ⟨rs, ρ1⟩
  · simp
  cases e : dsOf rs with
  | none => simp [e]
  | some ds => by_cases h : ds.length ≤ 16777216 <;> simp [e, h]
@[simp ↓] theorem wE_LstE : wE (bLstE fs) ρ QE ↔ wA fs ρ fun rs ρ1 => oq (dsOf rs) fun ds => ds.length ≤ 16777216 ∧ QE (.own ds) ρ1 := by
  unfold wE wA bLstE
  rcases fs ρ with _ | ⟨rs, ρ1⟩
  · simp
  cases e : dsOf rs with
  | none => simp [e]
  | some ds => by_cases h : ds.length ≤ 16777216 <;> simp [e, h]
@[simp ↓] theorem wE_Chain {h h' : D → D → Option RV} : wE (bChain h h' fa fb fc) ρ QE ↔ wE fa ρ fun ra ρ1 => isD' ra fun x => wE fb ρ1 fun rb ρ2 => isD' rb fun y => oq (h x y) fun q => isBl q fun b => if b = true then wE fc ρ2 fun rc ρ3 => isD' rc fun z => oq (h' y z) fun q => QE q ρ3 else QE (.d (.bl false)) ρ2 := by
  unfold wE bChain
  rcases fa ρ with _ | ⟨ra, ρ1⟩
  · simp
  cases ra with
  | own x => simp
  | bor x => simp
  | d x =>
    rcases e1 : fb ρ1 with _ | ⟨rb, ρ2⟩
    · simp [e1]
    cases rb with
    | own x => simp [e1]
    | bor x => simp [e1]
    | d y =>
      simp only [okQ_some, e1, isD'_d]
      rcases e2 : h x y with _ | q
      · simp
      cases q with
      | own x => simp [isBl]
      | bor x => simp [isBl]
      | d q =>
        cases q with
        | bl b =>
          cases b with
          | false => simp
          | true =>
            simp
            rcases e3 : fc ρ2 with _ | ⟨rc, ρ3⟩
            · simp
            cases rc with
            | own x => simp
            | bor x => simp
            | d z => cases e4 : h' y z <;> simp [e4]
        | _ => simp [isBl]
@[simp ↓] theorem wE_Mt {h : List Nat → List D → Option RV} : wE (bMt h fa fs) ρ QE ↔ wE fa ρ fun ra ρ1 => isStr ra fun s => wA fs ρ1 fun rs ρ2 => oq (pks ρ2 rs) fun ds => oq (h s ds) fun z => QE z ρ2 := by
  unfold wE wA bMt
  rcases fa ρ with _ | ⟨ra, ρ1⟩
  · simp
  cases ra with
  | own x => simp [isStr]
  | bor x => simp [isStr]
  | d x =>
    cases x with
    | str s =>
      simp only [okQ_some, isStr_str]
      rcases e1 : fs ρ1 with _ | ⟨rs, ρ2⟩
      · simp
      cases e2 : pks ρ2 rs with
      | none => simp [e2]
      | some ds => cases e3 : h s ds <;> simp [e2, e3]
    | _ => simp [isStr]
@[simp ↓] theorem wE_ListRange : wE (bListRange fa) ρ QE ↔ wE fa ρ fun r ρ1 => isInt r fun j => (-4611686018427387904 ≤ j ∧ j ≤ 16777216) ∧ QE (.own ((List.range j.toNat).map fun k : Nat => D.int (k : Int))) ρ1 := by
  unfold wE bListRange
  rcases fa ρ with _ | ⟨r, ρ1⟩
  · simp
  cases r with
  | own x => simp [isInt]
  | bor x => simp [isInt]
  | d x =>
    cases x with
    | int j =>
      simp only [okQ_some, isInt_int]
      rw [show (-(2 ^ 62) : Int) = -4611686018427387904 from by decide]
      split
      · rename_i h; simp [h]
      · rename_i h; simp only [okQ_none, false_iff]; exact fun z => h z.1
    | _ => simp [isInt]
@[simp ↓] theorem wE_Fld {f : Str} : wE (bFld f fa) ρ QE ↔ wE fa ρ fun r ρ1 => isIns r fun _ ns xs => oq ((ns.zip xs).lookup f) fun d => QE (.d d) ρ1 := by
  unfold wE bFld
  rcases fa ρ with _ | ⟨r, ρ1⟩
  · simp
  cases r with
  | own x => simp [isIns]
  | bor x => simp [isIns]
  | d x =>
    cases x with
    | ins nm ns xs =>
      simp only [okQ_some, isIns_ins]
      cases e : (ns.zip xs).lookup f <;> simp
    | _ => simp [isIns]
@[simp ↓] theorem wE_Mk {nm : Str} {m : Nat} {h : List D → Option (List (Str × D))} : wE (bMk nm m h fs) ρ QE ↔ wA fs ρ fun rs ρ1 => oq (dsOf rs) fun ds => ds.length = m ∧ oq (h ds) fun r => QE (.d (.ins nm (r.map (·.1)) (r.map (·.2)))) ρ1 := by
  unfold wE wA bMk
  rcases fs ρ with _ | ⟨rs, ρ1⟩
  · simp
  cases e : dsOf rs with
  | none => simp [e]
  | some ds =>
    by_cases hl : ds.length = m
    · cases e2 : h ds <;> simp [e, hl, e2]
    · simp [e, hl]
@[simp ↓] theorem wE_Isi2 {T U : String} : wE (bIsi2 T U fa) ρ QE ↔ wE fa ρ fun r ρ1 => oq (pk ρ1 r.nrm) fun d => oq (tyD d) fun A => oq (kitB A T) fun b => if b = true then QE (.d (.bl true)) ρ1 else oq (kitB A U) fun c => QE (.d (.bl c)) ρ1 := by
  unfold wE bIsi2
  rcases fa ρ with _ | ⟨r, ρ1⟩
  · simp
  simp only [okQ_some]
  cases e1 : pk ρ1 r.nrm with
  | none => simp
  | some d =>
    cases e2 : tyD d with
    | none => simp [e2]
    | some A =>
      simp only [e2, oq_some]
      rcases e3 : kitB A T with _ | b
      · simp
      cases b with
      | true => simp
      | false => rcases e4 : kitB A U with _ | c <;> simp
@[simp] theorem bors_nil : bors [] = [] := rfl
@[simp] theorem bors_d {x : D} {rs : List RV} : bors (.d x :: rs) = bors rs := rfl
@[simp] theorem bors_own {x : List D} {rs : List RV} : bors (.own x :: rs) = bors rs := rfl
@[simp] theorem bors_bor {rs : List RV} : bors (.bor i :: rs) = i :: bors rs := rfl
@[simp] theorem argOf_d {x : D} : argOf ρ (.d x) = some (.d x) := rfl
@[simp] theorem argOf_bor : argOf ρ (.bor i) = (match ρ[i]? with
    | some (some (.own _ xs)) => some (.own true xs)
    | _ => none) := rfl
@[simp] theorem argsOf_nil : argsOf ρ [] = some [] := rfl
@[simp] theorem argsOf_cons {r : RV} {rs : List RV} : argsOf ρ (r :: rs) = (match argOf ρ r, argsOf ρ rs with
    | some x, some xs => some (x :: xs)
    | _, _ => none) := rfl
@[simp] theorem give_nil : give [] [] ρ = some ρ := rfl
@[simp] theorem give_d {x y : D} {rs : List RV} {as : List SV} : give (.d x :: rs) (.d y :: as) ρ = give rs as ρ := rfl
@[simp] theorem give_bor {b : Bool} {y : List D} {rs : List RV} {as : List SV} : give (.bor i :: rs) (.own b y :: as) ρ = (match ρ[i]? with
    | some (some (.own b _)) => give rs as (ρ.set i (some (.own b y)))
    | _ => none) := rfl
@[simp ↓] theorem wE_Call {F : Fx} : wE (bCall F fs) ρ QE ↔ wA fs ρ fun rs ρ1 => (bors rs).Nodup ∧ oq (argsOf ρ1 rs) fun args => wF F args fun r as => nobor r ∧ oq (give rs as ρ1) fun ρ2 => QE r ρ2 := by
  unfold wE wA wF bCall
  rcases fs ρ with _ | ⟨rs, ρ1⟩
  · simp
  simp only [okQ_some]
  by_cases hn : (bors rs).Nodup
  · rw [if_pos hn]
    cases e1 : argsOf ρ1 rs with
    | none => simp
    | some args =>
      rcases e2 : F args with _ | ⟨r, as⟩
      · simp [e2]
      cases r with
      | bor i => simp [e2, nobor]
      | d x => cases e3 : give rs as ρ1 <;> simp [e2, hn, e3]
      | own x => cases e3 : give rs as ρ1 <;> simp [e2, hn, e3]
  · rw [if_neg hn]
    simp [hn]
@[simp] theorem outs_nil : outs [] n ρ = some [] := rfl
@[simp] theorem outs_d {x : D} {as : List SV} : outs (.d x :: as) n ρ = (outs as (n + 1) ρ).map fun r => .d x :: r := rfl
@[simp] theorem outs_own {b : Bool} {xs : List D} {as : List SV} : outs (.own b xs :: as) n ρ = (match ρ[n]? with
  | some (some (.own true ys)) => (outs as (n + 1) ρ).map fun r => .own true ys :: r
  | _ => none) := rfl
@[simp] theorem fin_nx : fin .nx ρ = some (.d .non) := rfl
@[simp] theorem fin_d {x : D} : fin (.rt (.d x)) ρ = some (.d x) := rfl
@[simp] theorem fin_own {x : List D} : fin (.rt (.own x)) ρ = some (.own x) := rfl
@[simp] theorem fin_bor : fin (.rt (.bor i)) ρ = (match ρ[i]? with
    | some (some (.own false xs)) => some (.own xs)
    | _ => none) := rfl
theorem wF_run {m : Nat} {body : Sx} {args : List SV} {Q : RV → List SV → Prop} : wF (runB n m body) args Q ↔ args.length = m ∧ wS body (args.map some ++ List.replicate (n - args.length) none) fun fl ρ => oq (fin fl ρ) fun r => oq (outs args 0 ρ) fun as => Q r as := by
  unfold wF wS runB
  by_cases h : args.length = m
  · rw [if_pos h]
    rcases body (args.map some ++ List.replicate (n - args.length) none) with _ | ⟨fl, ρ⟩
    · simp
    cases e1 : fin fl ρ <;> cases e2 : outs args 0 ρ <;> simp [h, e1, e2]
  · rw [if_neg h]
    simp [h]
@[simp ↓] theorem wS_For {it : Ix} {bind : Bx} : wS (sFor it bind f) ρ QS ↔ wI it ρ fun xs ρ1 => wR bind f xs ρ1 QS := by
  unfold wS wI wR sFor
  rcases it ρ with _ | ⟨xs, ρ1⟩ <;> simp
@[simp ↓] theorem wR_nil {bind : Bx} : wR bind f [] ρ QS ↔ QS .nx ρ := by
  unfold wR
  exact Iff.rfl
def nextR (bind : Bx) (f : Sx) (xs : List D) (Q : Fl → Sl → Prop) : Fl → Sl → Prop := fun fl ρ => match fl with
  | .nx => wR bind f xs ρ Q
  | .ct => wR bind f xs ρ Q
  | .bk => Q .nx ρ
  | .rt r => Q (.rt r) ρ
@[simp ↓] theorem nextR_nx {bind : Bx} {xs : List D} : nextR bind f xs QS .nx ρ ↔ wR bind f xs ρ QS := Iff.rfl
@[simp ↓] theorem nextR_ct {bind : Bx} {xs : List D} : nextR bind f xs QS .ct ρ ↔ wR bind f xs ρ QS := Iff.rfl
@[simp ↓] theorem nextR_bk {bind : Bx} {xs : List D} : nextR bind f xs QS .bk ρ ↔ QS .nx ρ := Iff.rfl
@[simp ↓] theorem nextR_rt {bind : Bx} {xs : List D} {r : RV} : nextR bind f xs QS (.rt r) ρ ↔ QS (.rt r) ρ := Iff.rfl
theorem wR_cons {bind : Bx} {x : D} {xs : List D} : wR bind f (x :: xs) ρ QS ↔ oq (bind x ρ) fun ρ1 => wS f ρ1 (nextR bind f xs QS) := by
  unfold wR wS forGo
  cases e1 : bind x ρ with
  | none => simp
  | some ρ1 =>
    rcases e2 : f ρ1 with _ | ⟨fl, ρ2⟩
    · simp [e2]
    cases fl <;> simp [e2, wR]
@[simp] theorem bName_ap {x : D} : bName i x ρ = some (ρ.set i (some (.d x))) := rfl
@[simp] theorem bTup_ap {is : List Nat} {xs : List D} : bTup is (.tup xs) ρ = bNames is xs ρ := rfl
@[simp] theorem bNames_nil : bNames [] [] ρ = some ρ := rfl
@[simp] theorem bNames_cons {is : List Nat} {x : D} {xs : List D} : bNames (i :: is) (x :: xs) ρ = bNames is xs (ρ.set i (some (.d x))) := rfl
theorem wR_inv {bind : Bx} (P : Nat → Sl → Prop) : ∀ {xs : List D} {k : Nat} {ρ : Sl}, P k ρ → (∀ i x ρ, xs[i]? = some x → P (k + i) ρ → oq (bind x ρ) fun ρ1 => wS f ρ1 fun fl ρ2 => match fl with
    | .nx => P (k + i + 1) ρ2
    | .ct => P (k + i + 1) ρ2
    | .bk => QS .nx ρ2
    | .rt r => QS (.rt r) ρ2) → (∀ ρ, P (k + xs.length) ρ → QS .nx ρ) → wR bind f xs ρ QS
  | [], k, ρ, h, _, he => wR_nil.mpr (he ρ h)
  | x :: xs, k, ρ, h, hs, he => by
    rw [wR_cons]
    obtain ⟨ρ1, e1, h1⟩ := oq_iff.mp (hs 0 x ρ rfl h)
    rw [e1]
    refine h1.imp fun fl ρ2 q => ?_
    have go : P (k + 0 + 1) ρ2 → wR bind f xs ρ2 QS := fun q => wR_inv P (xs := xs) (k := k + 1) q (fun i x ρ hx hp => by
      have := hs (i + 1) x ρ (by simpa using hx) (by have e : k + (i + 1) = k + 1 + i := by omega
                                                     rw [e]; exact hp)
      have e : k + (i + 1) + 1 = k + 1 + i + 1 := by omega
      rw [e] at this
      exact this) fun ρ hp => he ρ (by have e : k + (x :: xs).length = k + 1 + xs.length := by simp; omega
                                       rw [e]; exact hp)
    cases fl with
    | nx => exact go q
    | ct => exact go q
    | bk => exact q
    | rt r => exact q
@[simp ↓] theorem wS_While : wS (sWhile n c f) ρ QS ↔ wW c f n ρ QS := by
  unfold wW
  exact Iff.rfl
theorem wW_inv (P : Nat → Sl → Prop) : ∀ {n k : Nat} {ρ : Sl}, k < n → P k ρ → (∀ k ρ, P k ρ → wT c ρ fun b ρ1 => if b = true then wS f ρ1 fun fl ρ2 => match fl with
    | .nx => ∃ k', k' < k ∧ P k' ρ2
    | .ct => ∃ k', k' < k ∧ P k' ρ2
    | .bk => QS .nx ρ2
    | .rt r => QS (.rt r) ρ2
    else QS .nx ρ1) → wW c f n ρ QS
  | 0, k, ρ, h, _, _ => absurd h (Nat.not_lt_zero _)
  | n + 1, k, ρ, h, hp, hs => by
    have h1 := hs k ρ hp
    unfold wW whileN
    unfold wT at h1
    rcases e : c ρ with _ | ⟨b, ρ1⟩
    · rw [e] at h1; exact h1.elim
    rw [e] at h1
    cases b with
    | false => exact h1
    | true =>
      have h1 : wS f ρ1 _ := h1
      obtain ⟨fl, ρ2, e2, hq⟩ := okQ.ex h1
      simp only [e2, if_true]
      cases fl with
      | nx => obtain ⟨k', hk, hp'⟩ := hq; exact wW_def.mp (wW_inv P (n := n) (k := k') (by omega) hp' hs)
      | ct => obtain ⟨k', hk, hp'⟩ := hq; exact wW_def.mp (wW_inv P (n := n) (k := k') (by omega) hp' hs)
      | bk => exact hq
      | rt r => exact hq
@[simp ↓] theorem wI_Range1 : wI (iRange1 fa) ρ QI ↔ wE fa ρ fun r ρ1 => isInt r fun j => (-4611686018427387904 ≤ j ∧ j < 4611686018427387904) ∧ QI ((List.range j.toNat).map fun k : Nat => D.int (k : Int)) ρ1 := by
  unfold wE wI iRange1
  rcases fa ρ with _ | ⟨r, ρ1⟩
  · simp
  cases r with
  | own x => simp [isInt]
  | bor x => simp [isInt]
  | d x =>
    cases x with
    | int j =>
      simp only [okQ_some, isInt_int]
      rw [show (-(2 ^ 62) : Int) = -4611686018427387904 from by decide, show ((2 ^ 62) : Int) = 4611686018427387904 from by decide]
      split
      · rename_i h; simp [h]
      · rename_i h; simp only [okQ_none, false_iff]; exact fun z => h z.1
    | _ => simp [isInt]
@[simp ↓] theorem wI_Range2 : wI (iRange2 fa fb) ρ QI ↔ wE fa ρ fun r ρ1 => isInt r fun i => wE fb ρ1 fun q ρ2 => isInt q fun j => (-4611686018427387904 ≤ i ∧ i < 4611686018427387904 ∧ -4611686018427387904 ≤ j ∧ j < 4611686018427387904) ∧ QI ((List.range (j - i).toNat).map fun k : Nat => D.int (i + (k : Int))) ρ2 := by
  unfold wE wI iRange2
  rcases fa ρ with _ | ⟨r, ρ1⟩
  · simp
  cases r with
  | own x => simp [isInt]
  | bor x => simp [isInt]
  | d x =>
    cases x with
    | int i =>
      simp only [okQ_some, isInt_int]
      rcases fb ρ1 with _ | ⟨q, ρ2⟩
      · simp
      cases q with
      | own x => simp [isInt]
      | bor x => simp [isInt]
      | d y =>
        cases y with
        | int j =>
          simp only [okQ_some, isInt_int]
          rw [show (-(2 ^ 62) : Int) = -4611686018427387904 from by decide, show ((2 ^ 62) : Int) = 4611686018427387904 from by decide]
          split
          · rename_i h; simp [h]
          · rename_i h; simp only [okQ_none, false_iff]; exact fun z => h z.1
        | _ => simp [isInt]
    | _ => simp [isInt]
@[simp ↓] theorem wI_Range3 : wI (iRange3 fa fb fc) ρ QI ↔ wE fa ρ fun r ρ1 => isInt r fun i => wE fb ρ1 fun q ρ2 => isInt q fun j => wE fc ρ2 fun p ρ3 => isInt p fun k => (k = -1 ∧ -4611686018427387904 ≤ i ∧ i < 4611686018427387904 ∧ -4611686018427387904 ≤ j ∧ j < 4611686018427387904) ∧ QI ((List.range (i - j).toNat).map fun k : Nat => D.int (i + -(k : Int))) ρ3 := by
  unfold wE wI iRange3
  rcases fa ρ with _ | ⟨r, ρ1⟩
  · simp
  cases r with
  | own x => simp [isInt]
  | bor x => simp [isInt]
  | d x =>
    cases x with
    | int i =>
      simp only [okQ_some, isInt_int]
      rcases fb ρ1 with _ | ⟨q, ρ2⟩
      · simp
      cases q with
      | own x => simp [isInt]
      | bor x => simp [isInt]
      | d y =>
        cases y with
        | int j =>
          simp only [okQ_some, isInt_int]
          rcases fc ρ2 with _ | ⟨p, ρ3⟩
          · simp
          cases p with
          | own x => simp [isInt]
          | bor x => simp [isInt]
          | d u =>
            cases u with
            | int k =>
              simp only [okQ_some, isInt_int]
              rw [show (-(2 ^ 62) : Int) = -4611686018427387904 from by decide, show ((2 ^ 62) : Int) = 4611686018427387904 from by decide]
              split
              · rename_i h; simp [h]
              · rename_i h; simp only [okQ_none, false_iff]; exact fun z => h z.1
            | _ => simp [isInt]
        | _ => simp [isInt]
    | _ => simp [isInt]
@[simp ↓] theorem wI_Lst : wI (iLst fa) ρ QI ↔ wE (bFz fa) ρ fun r ρ1 => isLst r fun xs => QI xs ρ1 := by
  unfold wE wI iLst
  rcases bFz fa ρ with _ | ⟨r, ρ1⟩
  · simp
  cases r with
  | d x => cases x <;> simp [isBl, isInt, isStr, isLst, isTup]
  | own x => simp [isBl, isInt, isStr, isLst, isTup]
  | bor x => simp [isBl, isInt, isStr, isLst, isTup]
@[simp ↓] theorem wI_Tpl : wI (iTpl fa) ρ QI ↔ wE fa ρ fun r ρ1 => isTup r fun xs => QI xs ρ1 := by
  unfold wE wI iTpl
  rcases fa ρ with _ | ⟨r, ρ1⟩
  · simp
  cases r with
  | d x => cases x <;> simp [isBl, isInt, isStr, isLst, isTup]
  | own x => simp [isBl, isInt, isStr, isLst, isTup]
  | bor x => simp [isBl, isInt, isStr, isLst, isTup]
@[simp ↓] theorem wI_Txt : wI (iTxt fa) ρ QI ↔ wE fa ρ fun r ρ1 => isStr r fun s => QI (s.map fun c => D.str [c]) ρ1 := by
  unfold wE wI iTxt
  rcases fa ρ with _ | ⟨r, ρ1⟩
  · simp
  cases r with
  | d x => cases x <;> simp [isBl, isInt, isStr, isLst, isTup]
  | own x => simp [isBl, isInt, isStr, isLst, isTup]
  | bor x => simp [isBl, isInt, isStr, isLst, isTup]
@[simp ↓] theorem wE_Comp {it : Ix} {vs : List Nat} {bind : Bx} : wE (bComp it vs bind c fe) ρ QE ↔ wI it ρ fun xs ρ1 => noOwn ρ1 vs = true ∧ wC vs bind c fe xs [] (wipeS ρ1 vs) fun ys ρ2 => QE (.own ys) (restS ρ1 ρ2 vs) := by
  unfold wE wI wC bComp
  rcases it ρ with _ | ⟨xs, ρ1⟩
  · simp
  simp only [okQ_some]
  by_cases h : noOwn ρ1 vs = true
  · rw [if_pos h]
    rcases compGo vs bind c fe xs [] (wipeS ρ1 vs) with _ | ⟨ys, ρ2⟩ <;> simp [h]
  · rw [if_neg h]
    simp [h]
theorem wC_inv {vs : List Nat} {bind : Bx} (P : Nat → List D → Sl → Prop) {QC : List D → Sl → Prop} : ∀ {xs acc : List D} {k : Nat} {ρ : Sl}, P k acc ρ → (∀ i x acc ρ, xs[i]? = some x → P (k + i) acc ρ → oq (bind x ρ) fun ρ1 => wT c ρ1 fun b ρ2 => if b = true then wE (bFz fe) ρ2 fun r ρ3 => isD' r fun y => acc.length < 16777216 ∧ P (k + i + 1) (acc ++ [y]) (wipeS ρ3 vs) else P (k + i + 1) acc (wipeS ρ2 vs)) →
    (∀ acc ρ, P (k + xs.length) acc ρ → QC acc ρ) → wC vs bind c fe xs acc ρ QC
  | [], acc, k, ρ, h, _, he => by
    unfold wC
    exact he acc ρ h
  | x :: xs, acc, k, ρ, h, hs, he => by
    obtain ⟨ρ1, e1, h1⟩ := oq_iff.mp (hs 0 x acc ρ rfl h)
    have go : ∀ acc ρ2, P (k + 0 + 1) acc ρ2 → wC vs bind c fe xs acc ρ2 QC := fun acc ρ2 q => wC_inv P (xs := xs) (k := k + 1) q (fun i x acc ρ hx hp => by
      have := hs (i + 1) x acc ρ (by simpa using hx) (by have e : k + (i + 1) = k + 1 + i := by omega
                                                         rw [e]; exact hp)
      have e : k + (i + 1) + 1 = k + 1 + i + 1 := by omega
      rw [e] at this
      exact this) fun acc ρ hp => he acc ρ (by have e : k + (x :: xs).length = k + 1 + xs.length := by simp; omega
                                               rw [e]; exact hp)
    unfold wC compGo
    simp only [e1]
    unfold wT at h1
    rcases e2 : c ρ1 with _ | ⟨b, ρ2⟩
    · rw [e2] at h1; exact h1.elim
    rw [e2] at h1
    simp only
    cases b with
    | false => exact wC_def.mp (go acc _ h1)
    | true =>
      have h1 : wE (bFz fe) ρ2 _ := h1
      obtain ⟨r, ρ3, e3, hq⟩ := okQ.ex h1
      cases r with
      | own x => exact hq.elim
      | bor x => exact hq.elim
      | d y =>
      obtain ⟨hl, hp⟩ := hq
      simp only [e3, hl, if_true]
      exact wC_def.mp (go _ _ hp)
theorem wC_map {vs : List Nat} {bind : Bx} {QC : List D → Sl → Prop} (p : D → Bool) (h : D → D) {xs : List D} (hl : xs.length ≤ 16777216)
    (hs : ∀ x ∈ xs, oq (bind x ρ) fun ρ1 => wT c ρ1 fun b ρ2 => b = p x ∧ if b = true then wE (bFz fe) ρ2 fun r ρ3 => r = .d (h x) ∧ wipeS ρ3 vs = ρ else wipeS ρ2 vs = ρ) (he : QC ((xs.filter p).map h) ρ) : wC vs bind c fe xs [] ρ QC := by
  refine wC_inv (fun i acc ρ' => acc = ((xs.take i).filter p).map h ∧ ρ' = ρ) (xs := xs) (k := 0) ⟨by simp, rfl⟩ (fun i x acc ρ' hx hP => ?_) fun acc ρ' hP => ?_
  · obtain ⟨rfl, rfl⟩ := hP
    have hi : i < xs.length := (List.getElem?_eq_some_iff.mp hx).1
    have hx' : xs[i] = x := (List.getElem?_eq_some_iff.mp hx).2
    obtain ⟨ρ1, e1, h1⟩ := oq_iff.mp (hs x (hx' ▸ List.getElem_mem hi))
    rw [e1]
    refine okQ.imp h1 fun b ρ2 q => ?_
    obtain ⟨hb, q⟩ := q
    have et : xs.take (i + 1) = xs.take i ++ [x] := by rw [List.take_succ_eq_append_getElem hi, hx']
    cases b with
    | false =>
      refine ⟨?_, q⟩
      simp only [Nat.zero_add]
      rw [et, List.filter_append]
      simp [← hb]
    | true =>
      refine okQ.imp (show wE (bFz fe) ρ2 _ from q) fun r ρ3 q => ?_
      obtain ⟨rfl, q⟩ := q
      refine ⟨?_, ?_, q⟩
      · simp only [List.length_map, Nat.zero_add]
        have := List.length_filter_le p (xs.take i)
        simp at this
        omega
      · simp only [Nat.zero_add]
        rw [et, List.filter_append]
        simp [← hb]
  · obtain ⟨rfl, rfl⟩ := hP
    simpa using he
theorem wC_mapA {vs : List Nat} {bind : Bx} {QC : List D → Sl → Prop} (p : D → Bool) (h : D → D) {xs acc0 : List D} (hl : acc0.length + xs.length ≤ 16777216)
    (hs : ∀ x ∈ xs, oq (bind x ρ) fun ρ1 => wT c ρ1 fun b ρ2 => b = p x ∧ if b = true then wE (bFz fe) ρ2 fun r ρ3 => r = .d (h x) ∧ wipeS ρ3 vs = ρ else wipeS ρ2 vs = ρ) (he : QC (acc0 ++ (xs.filter p).map h) ρ) : wC vs bind c fe xs acc0 ρ QC := by
  refine wC_inv (fun i acc ρ' => acc = acc0 ++ ((xs.take i).filter p).map h ∧ ρ' = ρ) (xs := xs) (k := 0) ⟨by simp, rfl⟩ (fun i x acc ρ' hx hP => ?_) fun acc ρ' hP => ?_
  · obtain ⟨rfl, rfl⟩ := hP
    have hi : i < xs.length := (List.getElem?_eq_some_iff.mp hx).1
    have hx' : xs[i] = x := (List.getElem?_eq_some_iff.mp hx).2
    obtain ⟨ρ1, e1, h1⟩ := oq_iff.mp (hs x (hx' ▸ List.getElem_mem hi))
    rw [e1]
    refine okQ.imp h1 fun b ρ2 q => ?_
    obtain ⟨hb, q⟩ := q
    have et : xs.take (i + 1) = xs.take i ++ [x] := by rw [List.take_succ_eq_append_getElem hi, hx']
    cases b with
    | false =>
      refine ⟨?_, q⟩
      simp only [Nat.zero_add]
      rw [et, List.filter_append]
      simp [← hb]
    | true =>
      refine okQ.imp (show wE (bFz fe) ρ2 _ from q) fun r ρ3 q => ?_
      obtain ⟨rfl, q⟩ := q
      refine ⟨?_, ?_, q⟩
      · simp only [List.length_append, List.length_map, Nat.zero_add]
        have := List.length_filter_le p (xs.take i)
        simp at this
        omega
      · simp only [Nat.zero_add]
        rw [et, List.filter_append]
        simp [← hb]
  · obtain ⟨rfl, rfl⟩ := hP
    simpa using he
@[simp ↓] theorem wE_Comp2 {it it1 : Ix} {vs vs1 : List Nat} {bind bind1 : Bx} : wE (bComp2 it vs vs1 bind c it1 bind1 d fe) ρ QE ↔ wI it ρ fun xs ρ1 => noOwn ρ1 vs = true ∧ wC2 vs vs1 bind c it1 bind1 d fe xs [] (wipeS ρ1 vs) fun ys ρ2 => QE (.own ys) (restS ρ1 ρ2 vs) := by
  unfold wE wI wC2 bComp2
  rcases it ρ with _ | ⟨xs, ρ1⟩
  · simp
  simp only [okQ_some]
  by_cases h : noOwn ρ1 vs = true
  · rw [if_pos h]
    rcases comp2Go vs vs1 bind c it1 bind1 d fe xs [] (wipeS ρ1 vs) with _ | ⟨ys, ρ2⟩ <;> simp [h]
  · rw [if_neg h]
    simp [h]
theorem wC2_inv {vs vs1 : List Nat} {it1 : Ix} {bind bind1 : Bx} (P : Nat → List D → Sl → Prop) {QC : List D → Sl → Prop} : ∀ {xs acc : List D} {k : Nat} {ρ : Sl}, P k acc ρ → (∀ i x acc ρ, xs[i]? = some x → P (k + i) acc ρ → oq (bind x ρ) fun ρ1 => wT c ρ1 fun b ρ2 => if b = true then wI it1 ρ2 fun zs ρ3 => wC vs1 bind1 d fe zs acc (wipeS ρ3 vs1) fun acc' ρ4 => P (k + i + 1) acc' (wipeS ρ4 vs) else P (k + i + 1) acc (wipeS ρ2 vs)) →
    (∀ acc ρ, P (k + xs.length) acc ρ → QC acc ρ) → wC2 vs vs1 bind c it1 bind1 d fe xs acc ρ QC
  | [], acc, k, ρ, h, _, he => by
    unfold wC2
    exact he acc ρ h
  | x :: xs, acc, k, ρ, h, hs, he => by
    obtain ⟨ρ1, e1, h1⟩ := oq_iff.mp (hs 0 x acc ρ rfl h)
    have go : ∀ acc ρ2, P (k + 0 + 1) acc ρ2 → wC2 vs vs1 bind c it1 bind1 d fe xs acc ρ2 QC := fun acc ρ2 q => wC2_inv P (xs := xs) (k := k + 1) q (fun i x acc ρ hx hp => by
      have := hs (i + 1) x acc ρ (by simpa using hx) (by have e : k + (i + 1) = k + 1 + i := by omega
                                                         rw [e]; exact hp)
      have e : k + (i + 1) + 1 = k + 1 + i + 1 := by omega
      rw [e] at this
      exact this) fun acc ρ hp => he acc ρ (by have e : k + (x :: xs).length = k + 1 + xs.length := by simp; omega
                                               rw [e]; exact hp)
    unfold wC2 comp2Go
    simp only [e1]
    unfold wT at h1
    rcases e2 : c ρ1 with _ | ⟨b, ρ2⟩
    · rw [e2] at h1; exact h1.elim
    rw [e2] at h1
    simp only
    cases b with
    | false => exact wC2_def.mp (go acc _ h1)
    | true =>
      have h1 : wI it1 ρ2 _ := h1
      obtain ⟨zs, ρ3, e3, h2⟩ := okQ.ex h1
      obtain ⟨acc', ρ4, e4, h3⟩ := okQ.ex (wC_def.mp h2)
      simp only [e3, e4, if_true]
      exact wC2_def.mp (go _ _ h3)
theorem wC2_map {vs vs1 : List Nat} {it1 : Ix} {bind bind1 : Bx} {QC : List D → Sl → Prop} (zs : D → List D) (h : D → D → D) {xs : List D} (hl : (xs.flatMap fun x => (zs x).map (h x)).length ≤ 16777216)
    (hs : ∀ x ∈ xs, oq (bind x ρ) fun ρ1 => wT c ρ1 fun b ρ2 => b = true ∧ wI it1 ρ2 fun ys ρ3 => ys = zs x ∧ ∀ acc : List D, acc.length + (zs x).length ≤ 16777216 → ∀ Q : List D → Sl → Prop, (∀ ρ4, wipeS ρ4 vs = ρ → Q (acc ++ (zs x).map (h x)) ρ4) → wC vs1 bind1 d fe (zs x) acc (wipeS ρ3 vs1) Q) (he : QC (xs.flatMap fun x => (zs x).map (h x)) ρ) : wC2 vs vs1 bind c it1 bind1 d fe xs [] ρ QC := by
  refine wC2_inv (fun i acc ρ' => acc = (xs.take i).flatMap (fun x => (zs x).map (h x)) ∧ ρ' = ρ) (xs := xs) (k := 0) ⟨by simp, rfl⟩ (fun i x acc ρ' hx hP => ?_) fun acc ρ' hP => ?_
  · obtain ⟨rfl, rfl⟩ := hP
    have hi : i < xs.length := (List.getElem?_eq_some_iff.mp hx).1
    have hx' : xs[i] = x := (List.getElem?_eq_some_iff.mp hx).2
    obtain ⟨ρ1, e1, h1⟩ := oq_iff.mp (hs x (hx' ▸ List.getElem_mem hi))
    rw [e1]
    have et : xs.take (i + 1) = xs.take i ++ [x] := by rw [List.take_succ_eq_append_getElem hi, hx']
    refine okQ.imp h1 fun b ρ2 q => ?_
    obtain ⟨rfl, q⟩ := q
    refine okQ.imp q fun ys ρ3 q => ?_
    obtain ⟨rfl, q⟩ := q
    refine q _ ?_ _ fun ρ4 e4 => ⟨?_, e4⟩
    · have e5 : xs = xs.take (i + 1) ++ xs.drop (i + 1) := (List.take_append_drop _ _).symm
      rw [e5, et, List.flatMap_append, List.flatMap_append, List.length_append, List.length_append] at hl
      simp at hl ⊢
      omega
    · simp only [Nat.zero_add]
      rw [et, List.flatMap_append]
      simp
  · obtain ⟨rfl, rfl⟩ := hP
    simpa using he
end
end M
namespace M
open PySem PySem.Spec PyProof.Rows L2 TL
section
variable {i j k : Int} {a b : List Nat} {xs ys : List D} {x y : D} {c d : Bool}
theorem p64 : (2 ^ 64 : Int) = 18446744073709551616 := by decide
theorem p64n : (2 ^ 64 : Nat) = 18446744073709551616 := by decide
@[simp] theorem addD_int : addD (.int i) (.int j) = some (.d (.int (i + j))) := rfl
@[simp] theorem addD_str : addD (.str a) (.str b) = if a.length + b.length ≤ 16777216 then some (.d (.str (a ++ b))) else none := rfl
@[simp] theorem addD_lst : addD (.lst xs) (.lst ys) = if xs.length + ys.length ≤ 16777216 then some (.own (xs ++ ys)) else none := rfl
@[simp] theorem addD_tup : addD (.tup xs) (.tup ys) = if xs.length + ys.length ≤ 16777216 then some (.d (.tup (xs ++ ys))) else none := rfl
@[simp] theorem subD_int : subD (.int i) (.int j) = some (.d (.int (i - j))) := rfl
@[simp] theorem mulD_int : mulD (.int i) (.int j) = if ((-18446744073709551616 < i ∧ i < 18446744073709551616) ∨ (-18446744073709551616 < j ∧ j < 18446744073709551616)) then some (.d (.int (i * j))) else none := by
  simp only [mulD, iiD, mulC, p64, decide_eq_true_eq]
@[simp] theorem fdivD_int : fdivD (.int i) (.int j) = if (0 < j ∧ j < 1073741824) then some (.d (.int (i / j))) else none := by
  simp only [fdivD, iiD, fdivC, decide_eq_true_eq]
@[simp] theorem modD_int : modD (.int i) (.int j) = if 0 < j then some (.d (.int (i % j))) else none := by
  simp only [modD, iiD, modC, decide_eq_true_eq]
@[simp] theorem powD_int : powD (.int i) (.int j) = if (0 ≤ j ∧ j ≤ 1000000 ∧ i.natAbs < 18446744073709551616) then some (.d (.int (i ^ j.toNat))) else none := by
  simp only [powD, iiD, powC, p64n, decide_eq_true_eq]
@[simp] theorem negD_int : negD (.int i) = some (.d (.int (-i))) := rfl
@[simp] theorem ltD_int : ltD (.int i) (.int j) = some (.d (.bl (decide (i < j)))) := rfl
@[simp] theorem leD_int : leD (.int i) (.int j) = some (.d (.bl (decide (i ≤ j)))) := rfl
@[simp] theorem gtD_int : gtD (.int i) (.int j) = some (.d (.bl (decide (j < i)))) := rfl
@[simp] theorem geD_int : geD (.int i) (.int j) = some (.d (.bl (decide (j ≤ i)))) := rfl
@[simp] theorem eqD_int : eqD (.int i) (.int j) = some (.d (.bl (decide (i = j)))) := rfl
@[simp] theorem eqD_str : eqD (.str a) (.str b) = some (.d (.bl (decide (a = b)))) := rfl
@[simp] theorem eqD_bl : eqD (.bl c) (.bl d) = some (.d (.bl (decide (c = d)))) := rfl
@[simp] theorem eqD_non : eqD .non .non = some (.d (.bl true)) := rfl
@[simp] theorem eqD_ns : eqD .non (.str a) = some (.d (.bl false)) := rfl
@[simp] theorem eqD_sn : eqD (.str a) .non = some (.d (.bl false)) := rfl
@[simp] theorem neD_int : neD (.int i) (.int j) = some (.d (.bl (!decide (i = j)))) := rfl
@[simp] theorem neD_str : neD (.str a) (.str b) = some (.d (.bl (!decide (a = b)))) := rfl
@[simp] theorem neD_bl : neD (.bl c) (.bl d) = some (.d (.bl (!decide (c = d)))) := rfl
@[simp] theorem isD_bl : isD (.bl c) (.bl d) = some (.d (.bl (decide (c = d)))) := rfl
@[simp] theorem isD_nn : isD .non .non = some (.d (.bl true)) := rfl
@[simp] theorem isD_in : isD (.int i) .non = some (.d (.bl false)) := rfl
@[simp] theorem isD_sn : isD (.str a) .non = some (.d (.bl false)) := rfl
@[simp] theorem isD_bn : isD (.bl c) .non = some (.d (.bl false)) := rfl
@[simp] theorem isD_ln : isD (.lst xs) .non = some (.d (.bl false)) := rfl
@[simp] theorem isD_tn : isD (.tup xs) .non = some (.d (.bl false)) := rfl
@[simp] theorem isnD_nn : isnD .non .non = some (.d (.bl false)) := rfl
@[simp] theorem isnD_in : isnD (.int i) .non = some (.d (.bl true)) := rfl
@[simp] theorem isnD_sn : isnD (.str a) .non = some (.d (.bl true)) := rfl
@[simp] theorem isnD_bn : isnD (.bl c) .non = some (.d (.bl true)) := rfl
@[simp] theorem isnD_ln : isnD (.lst xs) .non = some (.d (.bl true)) := rfl
@[simp] theorem isnD_tn : isnD (.tup xs) .non = some (.d (.bl true)) := rfl
@[simp] theorem inD_sign {n : Nat} : inD (.str [n]) (.str a) = some (.d (.bl (decide (n ∈ a)))) := rfl
@[simp] theorem ninD_sign {n : Nat} : ninD (.str [n]) (.str a) = some (.d (.bl (!decide (n ∈ a)))) := rfl
@[simp] theorem ixD_lst : ixD (.lst xs) (.int i) = (atI xs i).map .d := rfl
@[simp] theorem ixD_tup : ixD (.tup xs) (.int i) = (atI xs i).map .d := rfl
@[simp] theorem ixD_scr : ixD (.scr xs) (.int i) = (atI xs i).map .d := rfl
theorem ixD_str : ixD (.str a) (.int i) = if a.length ≤ 16777216 then (atI a i).map (fun c => .d (.str [c])) else none := rfl
@[simp] theorem ixD_str' {P : RV → Prop} : oq (ixD (.str a) (.int i)) P ↔ a.length ≤ 16777216 ∧ oq (atI a i) fun c => P (.d (.str [c])) := by
  rw [ixD_str]
  split
  · rename_i h; simp [h]
  · rename_i h; simp [h]
@[simp] theorem lenD_str : lenD [.str a] = if a.length ≤ 16777216 then some (.d (.int a.length)) else none := rfl
@[simp] theorem lenD_lst : lenD [.lst xs] = some (.d (.int xs.length)) := rfl
@[simp] theorem lenD_tup : lenD [.tup xs] = some (.d (.int xs.length)) := rfl
@[simp] theorem lenD_scr : lenD [.scr xs] = some (.d (.int xs.length)) := rfl
@[simp] theorem absD_int : absD [.int i] = some (.d (.int (if i < 0 then -i else i))) := rfl
@[simp] theorem intD_int : intD [.int i] = some (.d (.int i)) := rfl
@[simp] theorem intD_bl : intD [.bl c] = some (.d (.int (if c then 1 else 0))) := rfl
@[simp] theorem minD_2 : minD [.int i, .int j] = some (.d (.int (if j < i then j else i))) := rfl
@[simp] theorem maxD_2 : maxD [.int i, .int j] = some (.d (.int (if j > i then j else i))) := rfl
@[simp] theorem tupleD_lst : tupleD [.lst xs] = some (.d (.tup xs)) := rfl
@[simp] theorem tupleD_tup : tupleD [.tup xs] = some (.d (.tup xs)) := rfl
@[simp] theorem listD_lst : listD [.lst xs] = some (.own xs) := rfl
@[simp] theorem listD_tup : listD [.tup xs] = some (.own xs) := rfl
@[simp] theorem listD_scr : listD [.scr xs] = some (.own xs) := rfl
@[simp] theorem appendD_1 : appendD xs [x] = if xs.length < 16777216 then some (xs ++ [x], .non) else none := rfl
@[simp] theorem extendD_1 : extendD xs [.lst ys] = if xs.length + ys.length ≤ 16777216 then some (xs ++ ys, .non) else none := rfl
@[simp] theorem okQ_ite {α β : Type} {p : Prop} [Decidable p] {r : α} {s : β} {Q : α → β → Prop} : okQ (if p then some (r, s) else none) Q ↔ p ∧ Q r s := by by_cases h : p <;> simp [h]
theorem popAtD_1 {n : Nat} (h : n < xs.length) (hl : xs.length ≤ 16777216) : popAtD xs [.int n] = some (xs.eraseIdx n, xs[n]) := by
  have e : seqIndex? (n : Int) xs.length = some n := by
    unfold seqIndex?
    have h1 : ¬ ((n : Int) < 0) := by omega
    simp [h1, h]
  unfold popAtD
  simp only [e]
  rw [if_pos ⟨by omega, by omega⟩]
  rw [List.getElem?_eq_getElem h]
theorem intsOf_ints : ∀ ns : List Int, intsOf (ns.map .int) = some ns
  | [] => rfl
  | n :: ns => by simp [intsOf, intsOf_ints ns]
theorem boolsOf_bls : ∀ ns : List Bool, boolsOf (ns.map .bl) = some ns
  | [] => rfl
  | n :: ns => by simp [boolsOf, boolsOf_bls ns]
theorem strsOf_strs : ∀ ns : List (List Nat), strsOf (ns.map .str) = some ns
  | [] => rfl
  | n :: ns => by simp [strsOf, strsOf_strs ns]
theorem joinL_nil : ∀ ps : List (List Nat), joinL [] ps = ps.flatten
  | [] => rfl
  | [p] => by simp [joinL]
  | p :: q :: r => by
    show p ++ ([] ++ joinL [] (q :: r)) = _
    rw [joinL_nil (q :: r)]
    simp
theorem joinD_lst (ps : List (List Nat)) (h : (ps.map (·.length)).sum ≤ 16777216) : joinD [] [.lst (ps.map .str)] = some (.d (.str ps.flatten)) := by
  simp only [joinD, strsOf_strs]
  simp [joinL_nil, h]
theorem sumD_lst (ns : List Int) : sumD [.lst (ns.map .int)] = some (.d (.int ns.sum)) := by
  unfold sumD anyL
  simp [intsOf_ints]
theorem allD_lst (bs : List Bool) : allD [.lst (bs.map .bl)] = some (.d (.bl (bs.all id))) := by
  unfold allD
  simp [boolsOf_bls]
theorem anyD_lst (bs : List Bool) : anyD [.lst (bs.map .bl)] = some (.d (.bl (bs.any id))) := by
  unfold anyD
  simp [boolsOf_bls]
theorem minD_lst (n : Int) (ns : List Int) : minD [.lst ((n :: ns).map .int)] = some (.d (.int (minL n ns))) := by
  simp only [minD, intsOf_ints]
theorem maxD_lst (n : Int) (ns : List Int) : maxD [.lst ((n :: ns).map .int)] = some (.d (.int (maxL n ns))) := by
  simp only [maxD, intsOf_ints]
theorem atI_nat {α : Type} {l : List α} {n : Nat} (h : n < l.length) : atI l (n : Int) = some l[n] := by
  unfold atI ixN
  rw [if_pos (by omega), if_pos (by omega)]
  simp [h]
theorem atI_int {α : Type} {l : List α} {n : Int} (h0 : 0 ≤ n) (h : n < l.length) : atI l n = some (l[n.toNat]'(by omega)) := by
  unfold atI ixN
  rw [if_pos h0, if_pos h]
  have : n.toNat < l.length := by omega
  simp [this]
theorem ixN_nat {n m : Nat} (h : n < m) : ixN m (n : Int) = some n := by
  unfold ixN
  rw [if_pos (by omega), if_pos (by omega)]
  simp
@[simp] theorem atI_0 {α : Type} {x0 : α} {l : List α} : atI (x0 :: l) 0 = some x0 := by
  have := atI_nat (l := x0 :: l) (n := 0) (by simp)
  simpa using this
@[simp] theorem ixN_0 {n : Nat} (h : 0 < n) : ixN n 0 = some 0 := ixN_nat h
@[simp] theorem atI_1 {α : Type} {x0 x1 : α} {l : List α} : atI (x0 :: x1 :: l) 1 = some x1 := by
  have := atI_nat (l := x0 :: x1 :: l) (n := 1) (by simp)
  simpa using this
@[simp] theorem ixN_1 {n : Nat} (h : 1 < n) : ixN n 1 = some 1 := ixN_nat h
@[simp] theorem atI_2 {α : Type} {x0 x1 x2 : α} {l : List α} : atI (x0 :: x1 :: x2 :: l) 2 = some x2 := by
  have := atI_nat (l := x0 :: x1 :: x2 :: l) (n := 2) (by simp)
  simpa using this
@[simp] theorem ixN_2 {n : Nat} (h : 2 < n) : ixN n 2 = some 2 := ixN_nat h
@[simp] theorem atI_3 {α : Type} {x0 x1 x2 x3 : α} {l : List α} : atI (x0 :: x1 :: x2 :: x3 :: l) 3 = some x3 := by
  have := atI_nat (l := x0 :: x1 :: x2 :: x3 :: l) (n := 3) (by simp)
  simpa using this
@[simp] theorem ixN_3 {n : Nat} (h : 3 < n) : ixN n 3 = some 3 := ixN_nat h
@[simp] theorem atI_4 {α : Type} {x0 x1 x2 x3 x4 : α} {l : List α} : atI (x0 :: x1 :: x2 :: x3 :: x4 :: l) 4 = some x4 := by
  have := atI_nat (l := x0 :: x1 :: x2 :: x3 :: x4 :: l) (n := 4) (by simp)
  simpa using this
@[simp] theorem ixN_4 {n : Nat} (h : 4 < n) : ixN n 4 = some 4 := ixN_nat h
@[simp] theorem slD_str {lo hi : Option Int} {P : RV → Prop} : oq (slD (.str a) lo hi) P ↔ a.length ≤ 16777216 ∧ P (.d (.str (cutL a lo hi))) := by
  unfold slD
  simp
@[simp] theorem slD_lst {lo hi : Option Int} : slD (.lst xs) lo hi = some (.own (cutL xs lo hi)) := rfl
@[simp] theorem slD_scr {lo hi : Option Int} : slD (.scr xs) lo hi = some (.own (cutL xs lo hi)) := rfl
@[simp] theorem slD_tup {lo hi : Option Int} : slD (.tup xs) lo hi = some (.d (.tup (cutL xs lo hi))) := rfl
section
variable {α : Type} {l : List α}
theorem sIx_int {n d : Nat} {v : Int} (h : 0 ≤ v) : HT.sIx n d (some v) = min v.toNat n := by
  show (if v < 0 then (v + (n : Int)).toNat else min v.toNat n) = min v.toNat n
  rw [if_neg (by omega)]
theorem sIx_neg {n d : Nat} {v : Int} (h : v < 0) : HT.sIx n d (some v) = (v + (n : Int)).toNat := by
  show (if v < 0 then (v + (n : Int)).toNat else min v.toNat n) = _
  rw [if_pos h]
theorem cutL_to {v : Int} (h : 0 ≤ v) : cutL l none (some v) = l.take v.toNat := by
  unfold cutL
  rw [sIx_int h]
  show (l.drop 0).take (min v.toNat l.length - 0) = _
  rw [List.drop_zero, Nat.sub_zero, ← List.take_eq_take_min]
theorem cutL_from {v : Int} (h : 0 ≤ v) : cutL l (some v) none = l.drop v.toNat := by
  unfold cutL
  rw [sIx_int h]
  show (l.drop (min v.toNat l.length)).take (l.length - min v.toNat l.length) = _
  rw [List.take_of_length_le (by simp)]
  by_cases h1 : v.toNat ≤ l.length
  · rw [Nat.min_eq_left h1]
  · rw [Nat.min_eq_right (by omega), List.drop_of_length_le (Nat.le_refl _), List.drop_of_length_le (by omega)]
theorem cutL_both {u v : Int} (h1 : 0 ≤ u) (h2 : 0 ≤ v) : cutL l (some u) (some v) = (l.drop u.toNat).take (v.toNat - u.toNat) := by
  unfold cutL
  rw [sIx_int h1, sIx_int h2]
  by_cases h : u.toNat ≤ l.length
  · rw [Nat.min_eq_left h]
    by_cases h' : v.toNat ≤ l.length
    · rw [Nat.min_eq_left h']
    · rw [Nat.min_eq_right (by omega), List.take_of_length_le (by simp), List.take_of_length_le (by simp; omega)]
  · rw [Nat.min_eq_right (a := u.toNat) (by omega), List.drop_of_length_le (Nat.le_refl _), List.drop_of_length_le (by omega)]
    simp
theorem cutL_tail {u : Int} (h1 : u < 0) : cutL l (some u) none = l.drop (u + l.length).toNat := by
  unfold cutL
  rw [sIx_neg h1]
  show (l.drop _).take (l.length - _) = _
  rw [List.take_of_length_le (by simp)]
theorem cutL_init {u : Int} (h1 : u < 0) : cutL l none (some u) = l.take (u + l.length).toNat := by
  unfold cutL
  rw [sIx_neg h1]
  show (l.drop 0).take (_ - 0) = _
  rw [List.drop_zero, Nat.sub_zero]
theorem cutL_mid {u v : Int} (h1 : u < 0) (h2 : v < 0) : cutL l (some u) (some v) = (l.drop (u + l.length).toNat).take ((v + l.length).toNat - (u + l.length).toNat) := by
  unfold cutL
  rw [sIx_neg h1, sIx_neg h2]
end
theorem oks_map {α : Type} {f : α → D} (h : ∀ x, (f x).ok = true) : ∀ l : List α, oks (l.map f) = true
  | [] => rfl
  | x :: l => by simp [oks, h, oks_map h l]
theorem deps_map {α : Type} {f : α → D} (h : ∀ x, (f x).dep = 0) : ∀ l : List α, deps (l.map f) = 0
  | [] => rfl
  | x :: l => by simp [deps, h, deps_map h l]
theorem okD_ints (l : List Int) : okD (.lst (l.map .int)) = true := by
  have h1 := oks_map (f := D.int) (fun _ => rfl) l
  have h2 := deps_map (f := D.int) (fun _ => rfl) l
  simp [okD, D.ok, D.dep, h1, h2]
theorem range_at {α : Type} {f : Nat → α} {n i : Nat} {x : α} (h : (List.map f (List.range n))[i]? = some x) : i < n ∧ x = f i := by
  rw [List.getElem?_map] at h
  obtain ⟨y, h1, h2⟩ := Option.map_eq_some_iff.mp h
  obtain ⟨h3, h4⟩ := List.getElem?_eq_some_iff.mp h1
  simp at h3 h4
  exact ⟨h3, by rw [← h2, ← h4]⟩
theorem map_at {α β : Type} {f : α → β} {l : List α} {i : Nat} {x : β} (h : (List.map f l)[i]? = some x) : ∃ y, l[i]? = some y ∧ x = f y := by
  rw [List.getElem?_map] at h
  obtain ⟨y, h1, h2⟩ := Option.map_eq_some_iff.mp h
  exact ⟨y, h1, h2.symm⟩
theorem eqB_lst_nil (h : okD (.lst xs) = true) : eqB (.lst xs) (.lst []) = some xs.isEmpty := by
  have e : okD (.lst []) = true := by decide
  simp only [eqB, h, e]
  cases xs with
  | nil => rfl
  | cons x xs => rfl
theorem eqD_lst_nil (h : okD (.lst xs) = true) : eqD (.lst xs) (.lst []) = some (.d (.bl xs.isEmpty)) := by
  unfold eqD
  rw [eqB_lst_nil h]
  rfl
theorem neD_lst_nil (h : okD (.lst xs) = true) : neD (.lst xs) (.lst []) = some (.d (.bl (!xs.isEmpty))) := by
  unfold neD
  rw [eqB_lst_nil h]
  rfl
theorem okD_nats (l : List Nat) : okD (.lst (l.map fun (k : Nat) => .int (k : Int))) = true := by
  have h1 := oks_map (f := fun k : Nat => D.int (k : Int)) (fun _ => rfl) l
  have h2 := deps_map (f := fun k : Nat => D.int (k : Int)) (fun _ => rfl) l
  simp [okD, D.ok, D.dep, h1, h2]
theorem erase_map {α β : Type} {f : α → β} : ∀ (l : List α) (n : Nat), (l.map f).eraseIdx n = (l.eraseIdx n).map f
  | [], n => by simp
  | x :: l, 0 => by simp
  | x :: l, n + 1 => by simp [erase_map l n]
@[simp] theorem isiD_ap {T : String} {P : RV → Prop} : oq (isiD T [x, .ptr (.ty T)]) P ↔ oq (tyD x) fun A => oq (kitB A T) fun b => P (.d (.bl b)) := by
  unfold isiD
  simp
  cases tyD x <;> simp
@[simp] theorem tyD_non : tyD .non = some "NoneType" := rfl
@[simp] theorem tyD_bl : tyD (.bl c) = some "bool" := rfl
@[simp] theorem tyD_int : tyD (.int i) = some "int" := rfl
@[simp] theorem tyD_str : tyD (.str a) = some "str" := rfl
@[simp] theorem tyD_lst : tyD (.lst xs) = some "list" := rfl
@[simp] theorem tyD_tup : tyD (.tup xs) = some "tuple" := rfl
@[simp] theorem kit_NoneType_str : kitB "NoneType" "str" = some false := by decide +kernel
@[simp] theorem kit_NoneType_int : kitB "NoneType" "int" = some false := by decide +kernel
@[simp] theorem kit_NoneType_bool : kitB "NoneType" "bool" = some false := by decide +kernel
@[simp] theorem kit_NoneType_list : kitB "NoneType" "list" = some false := by decide +kernel
@[simp] theorem kit_NoneType_tuple : kitB "NoneType" "tuple" = some false := by decide +kernel
@[simp] theorem kit_NoneType_dict : kitB "NoneType" "dict" = some false := by decide +kernel
@[simp] theorem kit_bool_str : kitB "bool" "str" = some false := by decide +kernel
@[simp] theorem kit_bool_int : kitB "bool" "int" = some true := by decide +kernel
@[simp] theorem kit_bool_bool : kitB "bool" "bool" = some true := by decide +kernel
@[simp] theorem kit_bool_list : kitB "bool" "list" = some false := by decide +kernel
@[simp] theorem kit_bool_tuple : kitB "bool" "tuple" = some false := by decide +kernel
@[simp] theorem kit_bool_dict : kitB "bool" "dict" = some false := by decide +kernel
@[simp] theorem kit_int_str : kitB "int" "str" = some false := by decide +kernel
@[simp] theorem kit_int_int : kitB "int" "int" = some true := by decide +kernel
@[simp] theorem kit_int_bool : kitB "int" "bool" = some false := by decide +kernel
@[simp] theorem kit_int_list : kitB "int" "list" = some false := by decide +kernel
@[simp] theorem kit_int_tuple : kitB "int" "tuple" = some false := by decide +kernel
@[simp] theorem kit_int_dict : kitB "int" "dict" = some false := by decide +kernel
@[simp] theorem kit_str_str : kitB "str" "str" = some true := by decide +kernel
@[simp] theorem kit_str_int : kitB "str" "int" = some false := by decide +kernel
@[simp] theorem kit_str_bool : kitB "str" "bool" = some false := by decide +kernel
@[simp] theorem kit_str_list : kitB "str" "list" = some false := by decide +kernel
@[simp] theorem kit_str_tuple : kitB "str" "tuple" = some false := by decide +kernel
@[simp] theorem kit_str_dict : kitB "str" "dict" = some false := by decide +kernel
@[simp] theorem kit_list_str : kitB "list" "str" = some false := by decide +kernel
@[simp] theorem kit_list_int : kitB "list" "int" = some false := by decide +kernel
@[simp] theorem kit_list_bool : kitB "list" "bool" = some false := by decide +kernel
@[simp] theorem kit_list_list : kitB "list" "list" = some true := by decide +kernel
@[simp] theorem kit_list_tuple : kitB "list" "tuple" = some false := by decide +kernel
@[simp] theorem kit_list_dict : kitB "list" "dict" = some false := by decide +kernel
@[simp] theorem kit_tuple_str : kitB "tuple" "str" = some false := by decide +kernel
@[simp] theorem kit_tuple_int : kitB "tuple" "int" = some false := by decide +kernel
@[simp] theorem kit_tuple_bool : kitB "tuple" "bool" = some false := by decide +kernel
@[simp] theorem kit_tuple_list : kitB "tuple" "list" = some false := by decide +kernel
@[simp] theorem kit_tuple_tuple : kitB "tuple" "tuple" = some true := by decide +kernel
@[simp] theorem kit_tuple_dict : kitB "tuple" "dict" = some false := by decide +kernel
theorem cutL_one {α : Type} {l : List α} {k : Nat} (h : k < l.length) : cutL l (some (k : Int)) (some ((k : Int) + 1)) = [l[k]] := by
  rw [cutL_both (by omega) (by omega)]
  have e : ((k : Int) + 1).toNat - (k : Int).toNat = 1 := by omega
  rw [e, Int.toNat_natCast, List.drop_eq_getElem_cons h]
  rfl
@[simp] theorem noOwn_nil {ρ : Sl} : noOwn ρ [] = true := rfl
@[simp] theorem noOwn_cons {ρ : Sl} {v : Nat} {vs : List Nat} : noOwn ρ (v :: vs) = ((match ρ[v]? with
  | some (some (.own _ _)) => false
  | _ => true) && noOwn ρ vs) := rfl
@[simp] theorem wipeS_nil {ρ : Sl} : wipeS ρ [] = ρ := rfl
@[simp] theorem wipeS_cons {ρ : Sl} {v : Nat} {vs : List Nat} : wipeS ρ (v :: vs) = (wipeS ρ vs).set v none := rfl
@[simp] theorem restS_nil {ρ ρ' : Sl} : restS ρ ρ' [] = ρ' := rfl
@[simp] theorem restS_cons {ρ ρ' : Sl} {v : Nat} {vs : List Nat} : restS ρ ρ' (v :: vs) = (restS ρ ρ' vs).set v (ρ.getD v none) := rfl
@[simp] theorem eqD_nils : eqD (.lst []) (.lst []) = some (.d (.bl true)) := eqD_lst_nil (by decide)
@[simp] theorem neD_nils : neD (.lst []) (.lst []) = some (.d (.bl false)) := neD_lst_nil (by decide)
theorem wC_none {ρ : Sl} {vs : List Nat} {bind : Bx} {cd : Tx} {fe : Ex} {QC : List D → Sl → Prop} (hs : ∀ x ∈ xs, oq (bind x ρ) fun ρ1 => wT cd ρ1 fun b ρ2 => b = false ∧ wipeS ρ2 vs = ρ) (he : QC [] ρ) (hl : xs.length ≤ 16777216) : wC vs bind cd fe xs [] ρ QC := by
  have e0 : xs.filter (fun _ => false) = [] := List.filter_eq_nil_iff.mpr (by simp)
  refine wC_map (fun _ => false) id hl (fun x hx => ?_) (by rw [e0]; exact he)
  have := hs x hx
  obtain ⟨ρ1, e, h⟩ := oq_iff.mp this
  rw [e]
  refine okQ.imp h fun b ρ2 q => ?_
  obtain ⟨rfl, q⟩ := q
  exact ⟨rfl, q⟩
theorem mem_range_map {α : Type} {f : Nat → α} {n : Nat} {x : α} (h : x ∈ (List.range n).map f) : ∃ k, k < n ∧ x = f k := by
  obtain ⟨k, h1, h2⟩ := List.mem_map.mp h
  exact ⟨k, List.mem_range.mp h1, h2.symm⟩
theorem okD_map {α : Type} {f : α → D} (h : ∀ x, (f x).ok = true) (h' : ∀ x, (f x).dep = 0) (l : List α) : okD (.lst (l.map f)) = true := by
  have h1 := oks_map h l
  have h2 := deps_map h' l
  simp [okD, D.ok, D.dep, h1, h2]
theorem eqD_tup_nil (h : okD (.tup xs) = true) : eqD (.tup xs) (.tup []) = some (.d (.bl xs.isEmpty)) := by
  have e : okD (.tup []) = true := by decide
  simp only [eqD, eqB, h, e]
  cases xs with
  | nil => rfl
  | cons x xs => rfl
theorem oks_all : ∀ {l : List D}, (∀ x ∈ l, x.ok = true) → oks l = true
  | [], _ => rfl
  | x :: l, h => by simp [oks, h x, oks_all (l := l) fun y hy => h y (by simp [hy])]
theorem deps_all : ∀ {l : List D}, (∀ x ∈ l, x.dep = 0) → deps l = 0
  | [], _ => rfl
  | x :: l, h => by simp [deps, h x, deps_all (l := l) fun y hy => h y (by simp [hy])]
theorem okD_tup_strs {l : List (List Nat)} (h : ∀ u ∈ l, ∀ c ∈ u, c < 1114112) : okD (.tup (l.map .str)) = true := by
  have h1 : oks (l.map .str) = true := oks_all fun x hx => by
    obtain ⟨u, hu, rfl⟩ := List.mem_map.mp hx
    simp [D.ok]
    exact h u hu
  have h2 : deps (l.map .str) = 0 := deps_all fun x hx => by
    obtain ⟨u, hu, rfl⟩ := List.mem_map.mp hx
    rfl
  simp [okD, D.ok, D.dep, h1, h2]
theorem okD_lst_strs {l : List (List Nat)} (h : ∀ u ∈ l, ∀ c ∈ u, c < 1114112) : okD (.lst (l.map .str)) = true := by
  have h1 : oks (l.map .str) = true := oks_all fun x hx => by
    obtain ⟨u, hu, rfl⟩ := List.mem_map.mp hx
    simp [D.ok]
    exact h u hu
  have h2 : deps (l.map .str) = 0 := deps_all fun x hx => by
    obtain ⟨u, hu, rfl⟩ := List.mem_map.mp hx
    rfl
  simp [okD, D.ok, D.dep, h1, h2]
end
end M
namespace M
open PySem PySem.Spec PyProof.Rows L2 TL
def wB (f : Ib) (ρ : Sl) (fs : List (Str × D)) (Q : Fl → Sl → List (Str × D) → Prop) (_ : Dep Q := .mk) : Prop := match f ρ fs with
  | some (fl, ρ', fs') => Q fl ρ' fs'
  | none => False
def isNx (fl : Fl) (P : Prop) (_ : Dep P := .mk) : Prop := match fl with | .nx => P | _ => False
@[simp ↓] theorem isNx_nx {P : Prop} : isNx .nx P ↔ P := Iff.rfl
section
variable {ρ : Sl} {fs : List (Str × D)} {QB : Fl → Sl → List (Str × D) → Prop} {f : Sx} {g : Ib} {fe : Ex} {o : Addr} {n : Str}
@[simp ↓] theorem wB_nil : wB iNil ρ fs QB ↔ QB .nx ρ fs := Iff.rfl
@[simp ↓] theorem wB_st : wB (iSt f g) ρ fs QB ↔ wS f ρ fun fl ρ1 => isNx fl (wB g ρ1 fs QB) := by
  unfold wB wS iSt
  rcases f ρ with _ | ⟨fl, ρ1⟩
  · simp
  cases fl <;> simp [isNx]
@[simp ↓] theorem wB_fld : wB (iFld o n fe g) ρ fs QB ↔ wE (bFz fe) ρ fun r ρ1 => isD' r fun d => (fs.length < 1000 ∧ selfAt ρ1 o = true) ∧ wB g ρ1 (putD n d fs) QB := by
  unfold wB wE iFld
  rcases bFz fe ρ with _ | ⟨r, ρ1⟩
  · simp
  cases r with
  | own x => simp
  | bor x => simp
  | d d =>
    simp only [okQ_some, isD'_d]
    by_cases h : fs.length < 1000 ∧ selfAt ρ1 o = true
    · rw [if_pos h]; simp [h]
    · rw [if_neg h]; simp only [false_iff]; exact fun z => h z.1
theorem runI_of {B : Ib} {k : Nat} {ds : List D} {r : List (Str × D)} (h : wB B ((some (.d (.ptr (.ref o))) :: ds.map fun d => some (.d d)) ++ List.replicate (k - (ds.length + 1)) none) [] fun fl _ fs => fl = .nx ∧ fs = r) : runI k B o ds = some r := by
  unfold runI
  unfold wB at h
  split at h
  · rename_i e
    obtain ⟨rfl, rfl⟩ := h
    rw [e]
  · exact h.elim
@[simp] theorem selfAt_ap : selfAt (some (.d (.ptr (.ref o))) :: ρ) o = true := by
  simp [selfAt]
end
end M
namespace M
open PySem PySem.Spec PyProof.Rows L2 TL
abbrev Hd1 := Value × Option Nat × (Addr → Value → Option Addr → TS)
def dropEnds (i : Nat) (D : Ends) : Ends := { nx := fun τ G => D.nx (τ.set i none) G, rt := D.rt, bk := fun τ G => D.bk (τ.set i none) G, ct := fun τ G => D.ct (τ.set i none) G }
def inSuite (oi : Option Nat) (ts : Addr → Value → Option Addr → TS) (a : Addr) (cls : Value) (d : Option Addr) (D : Ends) (τ : L2.St) (G : Hp) : Prop := match oi with
  | none => ts a cls d D τ G
  | some i => ts a cls d (dropEnds i D) (τ.set i (some (.ref a))) G
def wMix (K : PySem.W.Frag) (Wo : WX) (D : Ends) : List Hd1 → WX
  | [] => Wo
  | (c, oi, ts) :: r => fun cls d τ G => ∃ b, PySem.W.exmOne K cls c = some b ∧ (b = true → ∀ a, G a = none → inSuite oi ts a cls d D τ G) ∧ (b = false → wMix K Wo D r cls d τ G)
inductive HdsMix (X : Cx) : List ExceptHandler → List Hd1 → Prop
  | nil : HdsMix X [] []
  | plain {x : Str} {c : Value} {ts : Addr → Value → Option Addr → TS} {b₀ : Stmt} {rest : List Stmt} {p1 p2 : Pos} {hds : List ExceptHandler} {l : List Hd1} (hc : Names X x c)
      (hsu : ∀ (a : Addr) (oe : Obj) (cls : Value) (d : Option Addr) (pn : List (Addr × Obj)), Zc cls d oe → (∃ vs, oe.data = .fields vs) → PSs (X.suite a ((a, oe) :: pn)) (b₀ :: rest) (ts a cls d)) (r : HdsMix X hds l) :
      HdsMix X (.ExceptHandler (some (.Name x p1)) none (b₀ :: rest) p2 :: hds) ((c, none, ts) :: l)
  | named {x n : Str} {c : Value} {i : Nat} {ts : Addr → Value → Option Addr → TS} {b₀ : Stmt} {rest : List Stmt} {p1 p2 : Pos} {hds : List ExceptHandler} {l : List Hd1} (hc : Names X x c) (hi : X.N[i]? = some n) (hln : X.env.kindOf n = some .local)
      (hsu : ∀ (a : Addr) (oe : Obj) (cls : Value) (d : Option Addr) (pn : List (Addr × Obj)), Zc cls d oe → (∃ vs, oe.data = .fields vs) → PSs (X.suite a ((a, oe) :: pn)) (b₀ :: rest) (ts a cls d)) (r : HdsMix X hds l) :
      HdsMix X (.ExceptHandler (some (.Name x p1)) (some n) (b₀ :: rest) p2 :: hds) ((c, some i, ts) :: l)
section
variable {X : Cx} {body : List Stmt} {h₀ : ExceptHandler} {hds : List ExceptHandler} {l : List Hd1} {pos : Pos} {tb : WX → TS} {Wo : WX}
theorem ps_try_mix (hs : X.stack = X.env :: X.outer) (hf : X.env.frame = some X.env.locals) (hN : X.N.Nodup) (tk : Takes X Wo)
    (hb : ∀ (W : WX) (pn : List (Addr × Obj)) (xe : Value → Shared → Prop), Takes (X.tr pn xe) W → PassesOwn (model X.prog X.w) X.A X.env xe → PSs (X.tr pn xe) body (tb W))
    (hh : HdsMix X (h₀ :: hds) l) : PS X (.Try body (h₀ :: hds) [] [] pos) (fun D τ G => tb (wMix X.K Wo D l) D τ G) := by
  refine ⟨fun pins s0 τ0 G0 D I0 q0 => ?_⟩
  have okI := I0.ok
  have frs0 : X.A.frames = some (X.env :: X.outer) := by rw [okI.frames, hs]
  refine wpAny_Try_except (wpAny_mono ((hb (wMix X.K Wo D l) (X.pn ++ pins)
    (fun e s₁ => wpAny (model X.prog X.w) X.A (noteFrame e X.env)
      (fun _ s₂ => wpAny (model X.prog X.w) X.A (setFlight e none)
        (fun _ s₃ => wpAny (model X.prog X.w) X.A (handleBy e X.env (h₀ :: hds)) (SP X pins D) X.xe s₃) X.xe s₂) X.xe s₁)
    (fun u s' xx => ?_) PassesOwn.looking).run [] s0 τ0 G0 D (I0.toTry _) q0) (fun f s1 hsp => ?_) (fun e s1 he => he))
  · obtain ⟨a, B, sI, pins', τ, G, cls, d, rfl, I1, nb, up, sky, na, os, ag, w⟩ := xx
    have J : Inv X pins τ G sI := I1.ofTry okI
    rw [hs] at sky
    show wpAny (model X.prog X.w) X.A (noteFrame (.ref a) X.env) _ _ _
    refine Sky.land Zc.steady frs0 hf sky fun hA flA upA => ?_
    have JA : Inv X pins τ G { s' with heap := hA } := J.landed nb flA.1 (up.trans upA) os ag
    obtain ⟨oA, vA, gA, zA, dA⟩ := flA.there
    have outF : ∀ {h : Heap} {o : Obj} {vs : Array Value}, h.FunFrames B (X.env :: X.outer) → h.get? a = some o → o.data = .fields vs → a ∉ frs (X.env :: X.outer) := by
      intro h o vs ff e dd hm
      obtain ⟨_, o2, e2, hnf⟩ := ff.mem hm
      rw [e] at e2; cases e2; exact hnf _ dd
    have nfr := outF flA.2.2.1 gA dA
    have nL : a ≠ X.env.locals := by
      intro z; exact nfr (List.mem_filterMap.mpr ⟨X.env, List.mem_cons_self, by rw [hf, z]⟩)
    have nF : a ∉ X.fs := by
      intro hm
      obtain ⟨e, he, q⟩ := List.mem_filterMap.mp hm
      exact nfr (List.mem_filterMap.mpr ⟨e, List.mem_cons_of_mem _ he, q⟩)
    have SA := JA.suite gA dA na nL nF
    have look : PySem.W.Looks (model X.prog X.w) hA (typeOf (.ref a)) cls := by
      intro A Q E s k q; exact wpAny_typeOf_ref (k _ _ gA) (by rw [zA.1]; exact q)
    have nameOk : ∀ {x : Str} {c : Value} {p1 : Pos}, Names X x c → ∀ {Q : Value → Shared → Prop} {E : Value → Shared → Prop}, Q c { s' with heap := hA } →
        wpAny (model X.prog X.w) (X.A.mark (some (.ref a))) (eval (.Name x p1) X.env) Q E { s' with heap := hA } := by
      intro x c p1 hc Q E q
      obtain ⟨hg, hdbg, hm | ⟨hm, hv, hnn⟩⟩ := hc
      · exact ld_glob (X := X.suite a ((a, oA) :: (X.pn ++ pins))) SA hg hm q hdbg
      · exact ld_blt (X := X.suite a ((a, oA) :: (X.pn ++ pins))) SA hg hm hv q hnn hdbg
    have go : ∀ {hs' : List ExceptHandler} {l' : List Hd1}, HdsMix X hs' l' → wMix X.K Wo D l' cls d τ G →
        wpAny (model X.prog X.w) X.A (handleBy (.ref a) X.env hs') (SP X pins D) X.xe { s' with heap := hA } := by
      intro hs' l' hk
      induction hk with
      | nil =>
        intro w
        refine wpAny_handleBy_nil ?_
        obtain ⟨k1, k2, k3, oe, vs, T, oT, tt, he, hz, hd, h1, hr⟩ := id flA
        unfold PySem.passOn
        refine wpAny_bind (wpAny_field he hd h1 ?_)
        rw [if_neg (show ¬ ((Value.ref T == Value.none) = true) by simp)]
        have fin : wpAny (model X.prog X.w) X.A (setFlight (.ref a) X.env.frame)
            (fun _ s4 => wpAny (model X.prog X.w) X.A (throw (.ref a) : Sem Flow) (SP X pins D) X.xe s4) X.xe { s' with heap := hA } := by
          rw [hf]
          refine HandSPX.setFlight_upZ flA fun hB hhB upB => wpAny_throw (tk _ _ ?_)
          refine ⟨a, B, sI, pins, τ, G, cls, d, rfl, J, nb, (up.trans upA).trans upB, ?_, na, os, ag, w⟩
          exact .inr (.inr (by rw [hs]; exact hhB))
        first | exact wpAny_bind (wpAny_pure (wpAny_bind fin)) | exact wpAny_bind fin
      | plain hc hsu r ih =>
        intro w
        obtain ⟨b, hb1, hyes, hno⟩ := w
        refine wpAny_handleBy_cons (codeAny_handlers_test ?_) (by intro q; cases q)
        refine nameOk hc ((PySem.W.exm_one (M := model X.prog X.w) (JA.kIn) look hb1).here ?_)
        cases b with
        | false => exact ih (hno rfl)
        | true =>
          refine codeAny_handlers_suite (HandSPX.lands_againZ flA fun hB flB upB => ?_)
          have JB : Inv X pins τ G { s' with heap := hB } := J.landed nb flB.1 ((up.trans upA).trans upB) os ag
          obtain ⟨oB, vB, gB, zB, dB⟩ := flB.there
          refine wpAny_mono ((hsu a oB cls d (X.pn ++ pins) zB ⟨_, dB⟩).run [] _ _ G _ (JB.suite gB dB na nL nF) (hyes rfl a na)) (fun f s6 hsp => ?_) (fun _ _ z => z.elim)
          cases f with
          | next => obtain ⟨τ6, G6, S6, q6⟩ := hsp; exact ⟨_, _, S6.unsuite okI, q6⟩
          | brk => obtain ⟨τ6, G6, S6, q6⟩ := hsp; exact ⟨_, _, S6.unsuite okI, q6⟩
          | cont => obtain ⟨τ6, G6, S6, q6⟩ := hsp; exact ⟨_, _, S6.unsuite okI, q6⟩
          | ret u => obtain ⟨v6, τ6, G6, S6, r6, q6⟩ := hsp; exact ⟨_, _, _, S6.unsuite okI, r6, q6⟩
      | @named x n c i ts b₀ rest p1 p2 hds2 l2 hc hi hln hsu r ih =>
        intro w
        obtain ⟨b, hb1, hyes, hno⟩ := w
        refine wpAny_handleBy_cons (codeAny_handlers_test ?_) (by intro q; cases q)
        refine nameOk hc ((PySem.W.exm_one (M := model X.prog X.w) (JA.kIn) look hb1).here ?_)
        cases b with
        | false => exact ih (hno rfl)
        | true =>
          have hloc : Loc X.env.scope n := .inl hln
          refine codeAny_handlers_suite_as (HandSPX.lands_againZ flA fun hB flB upB => ?_)
          have JB : Inv X pins τ G { s' with heap := hB } := J.landed nb flB.1 ((up.trans upA).trans upB) os ag
          obtain ⟨oB, vB, gB, zB, dB⟩ := flB.there
          refine store_ok (X := X.suite a ((a, oB) :: (X.pn ++ pins))) (v := .ref a) (JB.suite gB dB na nL nF) hN hi hloc rfl (fun s5 S5 => ?_) (.inr hln)
          refine wpAny_mono ((hsu a oB cls d (X.pn ++ pins) zB ⟨_, dB⟩).run [] s5 _ G _ S5 (hyes rfl a na)) (fun f s6 hsp => ?_) (fun _ _ z => z.elim)
          have gone : ∀ {τ6 : L2.St} {G6 : Hp} {Q : Shared → Prop}, Inv (X.suite a ((a, oB) :: (X.pn ++ pins))) [] τ6 G6 s6 → (∀ s7, Inv X pins (τ6.set i none) G6 s7 → Q s7) →
              wpAny (model X.prog X.w) X.A (do bindName X.env n .none; unbindBehindTheSuite X.env n p2) (fun _ s7 => Q s7) X.xe s6 := by
            intro τ6 G6 Q S6 hq; exact gone_ok (S6.unsuite okI) hN hi hln hq
          cases f with
          | next => obtain ⟨τ6, G6, S6, q6⟩ := hsp; exact gone S6 fun s7 J7 => ⟨_, _, J7, q6⟩
          | brk => obtain ⟨τ6, G6, S6, q6⟩ := hsp; exact gone S6 fun s7 J7 => ⟨_, _, J7, q6⟩
          | cont => obtain ⟨τ6, G6, S6, q6⟩ := hsp; exact gone S6 fun s7 J7 => ⟨_, _, J7, q6⟩
          | ret u => obtain ⟨v6, τ6, G6, S6, r6, q6⟩ := hsp; exact gone S6 fun s7 J7 => ⟨_, _, _, J7, r6, q6⟩
    exact go hh w
  · cases f with
    | next => obtain ⟨τ', G', J', q⟩ := hsp; exact wpAny_execs_nil ⟨τ', G', J'.ofTry okI, q⟩
    | brk => obtain ⟨τ', G', J', q⟩ := hsp; exact ⟨τ', G', J'.ofTry okI, q⟩
    | cont => obtain ⟨τ', G', J', q⟩ := hsp; exact ⟨τ', G', J'.ofTry okI, q⟩
    | ret u => obtain ⟨v, τ', G', J', r, q⟩ := hsp; exact ⟨v, τ', G', J'.ofTry okI, r, q⟩
end
end M
namespace M
open PySem PySem.Spec PyProof.Rows L2 TL
inductive CO where
  | lst (xs : List D) | dct (kvs : List (L2.Key × D))
abbrev Ck := List (Addr × CO)
def coOk (K : PySem.W.Frag) (G : Hp) : CO → HO → Prop
  | .lst xs, o => ∃ vs, o = .lst vs ∧ RDs K G xs vs
  | .dct kvs, o => ∃ ws, o = .dK ws ∧ ws.map (·.1) = kvs.map (·.1) ∧ RDs K G (kvs.map (·.2)) (ws.map (·.2))
structure CellsOk (K : PySem.W.Frag) (G hk : Hp) (κ : Ck) : Prop where
  at_ : ∀ p c, (p, c) ∈ κ → ∃ o, hk p = some o ∧ coOk K G c o
  only : ∀ p o, hk p = some o → ∃ c, (p, c) ∈ κ
theorem coOk.mono {K : PySem.W.Frag} {G G' : Hp} (s : Same G G') : ∀ {c : CO} {o : HO}, coOk K G c o → coOk K G' c o
  | .lst xs, o, ⟨vs, e, r⟩ => ⟨vs, e, RDs.mono s _ _ r⟩
  | .dct kvs, o, ⟨ws, e, h, r⟩ => ⟨ws, e, h, RDs.mono s _ _ r⟩
theorem CellsOk.mono {K : PySem.W.Frag} {G G' hk : Hp} {κ : Ck} (h : CellsOk K G hk κ) (s : Same G G') : CellsOk K G' hk κ :=
  ⟨fun p c m => by obtain ⟨o, e, r⟩ := h.at_ p c m; exact ⟨o, e, r.mono s⟩, h.only⟩
def ln (F : Fm) (hk : Hp) : Fm := ⟨fun b => match hk b with | some o => some o | none => F.hp b, F.par⟩
def Dis (F : Fm) (hk : Hp) : Prop := ∀ p o, hk p = some o → F.hp p = none
structure RepN (K : PySem.W.Frag) (F : Fm) (G H : Hp) (σ : Sg) (ρ : Sl) (κ : Ck) (hk : Hp) : Prop where
  cl : CellsOk K G hk κ
  ds : Dis F hk
  rp : Rep K (ln F hk) G H σ ρ
structure Er where
  c : Str
  ns : List Str
  xs : List D
def ErV (K : PySem.W.Frag) (mg : Str → Option Value) (G : Hp) (e : Er) (cls : Value) (d : Option Addr) : Prop := (∃ C, mg e.c = some (.ref C) ∧ cls = .ref C) ∧
  (e.ns = [] ∨ ∃ (dd : Addr) (us : List V), d = some dd ∧ G dd = some (.xd (e.ns.zip us)) ∧ us.length = e.ns.length ∧ RDs K G e.xs us)
abbrev Nx (α : Type) := Sl → Ck → (α → Sl → Ck → Prop) → (Er → Sl → Ck → Prop) → Prop
abbrev NE := Nx RV
abbrev NT := Nx Bool
abbrev NA := Nx (List RV)
abbrev NS := Nx Fl
def erK (K : PySem.W.Frag) (mg : Str → Option Value) (W : WX) (F : Fm) (G : Hp) (σ : Sg) : Er → Sl → Ck → Prop := fun e ρ' κ' => ∀ G' H' hk' cls d, Same G G' → RepN K F G' H' σ ρ' κ' hk' → ErV K mg G' e cls d → W cls d σ H'
def nE (K : PySem.W.Frag) (mg : Str → Option Value) (W : WX) (f : NE) : TE := fun σ H Q => ∃ F G ρ κ hk, RepN K F G H σ ρ κ hk ∧ f ρ κ (fun r ρ' κ' => ∀ v G' H' hk', Same G G' → RepN K F G' H' σ ρ' κ' hk' → RR K (ln F hk') G' H' σ ρ' r v → Q v H') (erK K mg W F G σ)
def nT (K : PySem.W.Frag) (mg : Str → Option Value) (W : WX) (f : NT) : TT := fun σ H Q => ∃ F G ρ κ hk, RepN K F G H σ ρ κ hk ∧ f ρ κ (fun b ρ' κ' => ∀ G' H' hk', Same G G' → RepN K F G' H' σ ρ' κ' hk' → Q b H') (erK K mg W F G σ)
def erS (K : PySem.W.Frag) (mg : Str → Option Value) (W : WX) (F : Fm) (G : Hp) : Er → Sl → Ck → Prop := fun e ρ' κ' => ∀ σ' G' H' hk' cls d, Same G G' → RepN K F G' H' σ' ρ' κ' hk' → ErV K mg G' e cls d → W cls d σ' H'
def nS (K : PySem.W.Frag) (mg : Str → Option Value) (W : WX) (f : NS) : TS := fun D σ H => ∃ F G ρ κ hk, RepN K F G H σ ρ κ hk ∧ f ρ κ (fun fl ρ' κ' => ∀ σ' G' H' hk', Same G G' → RepN K F G' H' σ' ρ' κ' hk' → FQ K (ln F hk') D fl G' H' σ' ρ') (erS K mg W F G)
def PEn (X : Cx) (W : WX) (e : Expr) (f : NE) : Prop := PE X e (nE X.K X.mg W f)
def PTn (X : Cx) (W : WX) (e : Expr) (f : NT) : Prop := PT X e (nT X.K X.mg W f)
def PSn (X : Cx) (W : WX) (st : Stmt) (f : NS) : Prop := PS X st (nS X.K X.mg W f)
def PBn (X : Cx) (W : WX) (st : List Stmt) (f : NS) : Prop := PSs X st (nS X.K X.mg W f)
def up {α : Type} (f : Sl → Option (α × Sl)) : Nx α := fun ρ κ Q _ => okQ (f ρ) fun r ρ' => Q r ρ' κ
section
variable {X : Cx} {W : WX} {e : Expr} {st : Stmt} {sts : List Stmt} {f : Ex} {t : Tx} {s : Sx}
theorem en_up (h : PEv X e f) : PEn X W e (up f) := PE.imp h fun σ H Q q => by
  obtain ⟨F, G, ρ, κ, hk, R, q⟩ := q
  obtain ⟨r, ρ', e1, k⟩ := okQ.ex q
  exact ⟨ln F hk, G, ρ, r, ρ', R.rp, e1, fun v G' H' s R' r' => k v G' H' hk s ⟨R.cl.mono s, R.ds, R'⟩ r'⟩
theorem tn_up (h : PTv X e t) : PTn X W e (up t) := PT.imp h fun σ H Q q => by
  obtain ⟨F, G, ρ, κ, hk, R, q⟩ := q
  obtain ⟨r, ρ', e1, k⟩ := okQ.ex q
  exact ⟨ln F hk, G, ρ, r, ρ', R.rp, e1, fun G' H' s R' => k G' H' hk s ⟨R.cl.mono s, R.ds, R'⟩⟩
theorem sn_up (h : PSv X st s) : PSn X W st (up s) := PS.imp h fun D σ H q => by
  obtain ⟨F, G, ρ, κ, hk, R, q⟩ := q
  obtain ⟨fl, ρ', e1, k⟩ := okQ.ex q
  exact ⟨ln F hk, G, ρ, fl, ρ', R.rp, e1, fun σ' G' H' s R' => k σ' G' H' hk s ⟨R.cl.mono s, R.ds, R'⟩⟩
theorem bn_up (h : PBv X sts s) : PBn X W sts (up s) := PSs.imp h fun D σ H q => by
  obtain ⟨F, G, ρ, κ, hk, R, q⟩ := q
  obtain ⟨fl, ρ', e1, k⟩ := okQ.ex q
  exact ⟨ln F hk, G, ρ, fl, ρ', R.rp, e1, fun σ' G' H' s R' => k σ' G' H' hk s ⟨R.cl.mono s, R.ds, R'⟩⟩
theorem sv_try {body : List Stmt} {h₀ : ExceptHandler} {hs : List ExceptHandler} {pos : Pos} (h : PBv X.nox body s) : PSv X (.Try body (h₀ :: hs) [] [] pos) s := ps_try_thru0 h
end
end M
namespace M
open PySem PySem.Spec PyProof.Rows L2 TL
def Mono {α : Type} (f : Nx α) : Prop := ∀ ρ κ (Q Q' : α → Sl → Ck → Prop) (E E' : Er → Sl → Ck → Prop), (∀ r ρ' κ', Q r ρ' κ' → Q' r ρ' κ') → (∀ e ρ' κ', E e ρ' κ' → E' e ρ' κ') → f ρ κ Q E → f ρ κ Q' E'
theorem mono_up {α : Type} {f : Sl → Option (α × Sl)} : Mono (up f) := fun ρ κ Q Q' E E' hq _ h => okQ.imp h fun r ρ' q => hq r ρ' κ q
def nSeq (f g : NS) : NS := fun ρ κ Q E => f ρ κ (fun fl ρ1 κ1 => match fl with
  | .nx => g ρ1 κ1 Q E
  | o => Q o ρ1 κ1) E
def nBind {α β : Type} (f : Nx α) (g : α → Nx β) : Nx β := fun ρ κ Q E => f ρ κ (fun r ρ1 κ1 => g r ρ1 κ1 Q E) E
theorem mono_seq {f g : NS} (hf : Mono f) (hg : Mono g) : Mono (nSeq f g) := fun ρ κ Q Q' E E' hq he h => hf ρ κ _ _ E E' (fun fl ρ1 κ1 q => by
  cases fl with
  | nx => exact hg ρ1 κ1 Q Q' E E' hq he q
  | bk => exact hq _ _ _ q
  | ct => exact hq _ _ _ q
  | rt r => exact hq _ _ _ q) he h
theorem mono_bind {α β : Type} {f : Nx α} {g : α → Nx β} (hf : Mono f) (hg : ∀ a, Mono (g a)) : Mono (nBind f g) := fun ρ κ Q Q' E E' hq he h => hf ρ κ _ _ E E' (fun r ρ1 κ1 q => hg r ρ1 κ1 Q Q' E E' hq he q) he h
theorem erK.mono {K : PySem.W.Frag} {mg : Str → Option Value} {W : WX} {F : Fm} {G G1 : Hp} {σ : Sg} {e : Er} {ρ : Sl} {κ : Ck} (s : Same G G1) (h : erK K mg W F G σ e ρ κ) : erK K mg W F G1 σ e ρ κ := fun G' H' hk' cls d s1 R v => h G' H' hk' cls d (s.trans s1) R v
theorem erS.mono {K : PySem.W.Frag} {mg : Str → Option Value} {W : WX} {F : Fm} {G G1 : Hp} {e : Er} {ρ : Sl} {κ : Ck} (s : Same G G1) (h : erS K mg W F G e ρ κ) : erS K mg W F G1 e ρ κ := fun σ' G' H' hk' cls d s1 R v => h σ' G' H' hk' cls d (s.trans s1) R v
section
variable {X : Cx} {W : WX} {a b c e : Expr} {st : Stmt} {sts : List Stmt} {f g : NS} {fa fb : NE} {t : NT} {pos : Pos}
theorem bn_nil : PBn X W [] (up sNx) := bn_up bv_nil
theorem bn_cons (mf : Mono f) (mg : Mono g) (h : PSn X W st f) (hr : PBn X W sts g) : PBn X W (st :: sts) (nSeq f g) := PSs.imp (pss_cons h hr) fun D σ H q => by
  obtain ⟨F, G, ρ, κ, hk, R, q⟩ := q
  refine ⟨F, G, ρ, κ, hk, R, mf _ _ _ _ _ _ (fun fl ρ1 κ1 q => ?_) (fun _ _ _ z => z) q⟩
  intro σ1 G1 H1 hk1 s1 R1
  cases fl with
  | nx =>
    refine ⟨F, G1, ρ1, κ1, hk1, R1, ?_⟩
    exact mg _ _ _ _ _ _ (fun fl ρ' κ' z σ' G' H' hk' s' R' => z σ' G' H' hk' (s1.trans s') R') (fun _ _ _ z => erS.mono s1 z) q
  | bk => exact q σ1 G1 H1 hk1 s1 R1
  | ct => exact q σ1 G1 H1 hk1 s1 R1
  | rt r => exact q σ1 G1 H1 hk1 s1 R1
theorem bn_one (h : PSn X W st f) (mf : Mono f) : PBn X W [st] f := PSs.imp (pss_one h) fun D σ H q => q
def nIf (t : NT) (f g : NS) : NS := nBind t fun b => if b then f else g
theorem mono_if (mt : Mono t) (mf : Mono f) (mg : Mono g) : Mono (nIf t f g) := mono_bind mt fun b => by cases b <;> assumption
theorem sn_if {bd or' : List Stmt} (mt : Mono t) (mf : Mono f) (mg : Mono g) (ht : PTn X W a t) (hf : PBn X W bd f) (hg : PBn X W or' g) : PSn X W (.If a bd or' pos) (nIf t f g) := PS.imp (ps_if ht hf hg) fun D σ H q => by
  obtain ⟨F, G, ρ, κ, hk, R, q⟩ := q
  refine ⟨F, G, ρ, κ, hk, R, mt _ _ _ _ _ _ (fun b ρ1 κ1 q => ?_) (fun e ρ' κ' z => ?_) q⟩
  · intro G1 H1 hk1 s1 R1
    cases b with
    | true => exact ⟨F, G1, ρ1, κ1, hk1, R1, mf _ _ _ _ _ _ (fun fl ρ' κ' z σ' G' H' hk' s' R' => z σ' G' H' hk' (s1.trans s') R') (fun _ _ _ z => erS.mono s1 z) q⟩
    | false => exact ⟨F, G1, ρ1, κ1, hk1, R1, mg _ _ _ _ _ _ (fun fl ρ' κ' z σ' G' H' hk' s' R' => z σ' G' H' hk' (s1.trans s') R') (fun _ _ _ z => erS.mono s1 z) q⟩
  · exact fun G' H' hk' cls d s' R' v => z σ G' H' hk' cls d s' R' v
def nRet (f : NE) : NS := nBind f fun r ρ κ Q _ => Q (.rt r) ρ κ
theorem mono_ret (mf : Mono fa) : Mono (nRet fa) := mono_bind mf fun r ρ κ Q Q' E E' hq _ h => hq _ _ _ h
theorem sn_ret (mf : Mono fa) (h : PEn X W a fa) : PSn X W (.Return (some a) pos) (nRet fa) := PS.imp (ps_ret h) fun D σ H q => by
  obtain ⟨F, G, ρ, κ, hk, R, q⟩ := q
  refine ⟨F, G, ρ, κ, hk, R, mf _ _ _ _ _ _ (fun r ρ1 κ1 q => ?_) (fun e ρ' κ' z => ?_) q⟩
  · exact fun v G1 H1 hk1 s1 R1 r1 => q σ G1 H1 hk1 s1 R1 v r1
  · exact fun G' H' hk' cls d s' R' v => z σ G' H' hk' cls d s' R' v
def nDrop (f : NE) : NS := nBind f fun _ ρ κ Q _ => Q .nx ρ κ
theorem mono_drop (mf : Mono fa) : Mono (nDrop fa) := mono_bind mf fun r ρ κ Q Q' E E' hq _ h => hq _ _ _ h
theorem sn_drop (mf : Mono fa) (h : PEn X W a fa) (hs : swapsWith a none pos.line X.env = pure false := by rfl) : PSn X W (.Expr a pos) (nDrop fa) := PS.imp (ps_expr h hs) fun D σ H q => by
  obtain ⟨F, G, ρ, κ, hk, R, q⟩ := q
  refine ⟨F, G, ρ, κ, hk, R, mf _ _ _ _ _ _ (fun r ρ1 κ1 q => ?_) (fun e ρ' κ' z => ?_) q⟩
  · exact fun v G1 H1 hk1 s1 R1 r1 => q σ G1 H1 hk1 s1 R1
  · exact fun G' H' hk' cls d s' R' v => z σ G' H' hk' cls d s' R' v
def nIfE (t : NT) (f g : NE) : NE := nBind t fun b => if b then f else g
theorem mono_ifE (mt : Mono t) (mf : Mono fa) (mg : Mono fb) : Mono (nIfE t fa fb) := mono_bind mt fun b => by cases b <;> assumption
theorem en_ifE (mt : Mono t) (mf : Mono fa) (mg : Mono fb) (ht : PTn X W c t) (hf : PEn X W a fa) (hg : PEn X W b fb) : PEn X W (.IfExp c a b pos) (nIfE t fa fb) := PE.imp (pe_ifExp ht hf hg) fun σ H Q q => by
  obtain ⟨F, G, ρ, κ, hk, R, q⟩ := q
  refine ⟨F, G, ρ, κ, hk, R, mt _ _ _ _ _ _ (fun b ρ1 κ1 q => ?_) (fun e ρ' κ' z => z) q⟩
  intro G1 H1 hk1 s1 R1
  cases b with
  | true => exact ⟨F, G1, ρ1, κ1, hk1, R1, mf _ _ _ _ _ _ (fun r ρ' κ' z v G' H' hk' s' R' => z v G' H' hk' (s1.trans s') R') (fun e ρ' κ' z => erK.mono s1 z) q⟩
  | false => exact ⟨F, G1, ρ1, κ1, hk1, R1, mg _ _ _ _ _ _ (fun r ρ' κ' z v G' H' hk' s' R' => z v G' H' hk' (s1.trans s') R') (fun e ρ' κ' z => erK.mono s1 z) q⟩
def nSet (i : Nat) (f : NE) : NS := nBind f fun r ρ κ Q _ => oq (putR i r ρ) fun ρ2 => Q .nx ρ2 κ
theorem mono_set {i : Nat} (mf : Mono fa) : Mono (nSet i fa) := mono_bind mf fun r ρ κ Q Q' E E' hq _ h => by
  obtain ⟨ρ2, e, h⟩ := oq_iff.mp h
  exact oq_iff.mpr ⟨ρ2, e, hq _ _ _ h⟩
theorem sn_set {x : Str} {pos' : Pos} (i : Nat) (hN : X.N.Nodup) (mf : Mono fa) (h : PEn X W a fa) (hi : X.N[i]? = some x := by rfl) (hx : Loc X.env.scope x := by first | exact Or.inl rfl | exact Or.inr rfl) (hs : swapsWith a (some (.Name x pos')) pos.line X.env = pure false := by rfl)
    (hf : X.fn x = true ∨ X.env.scope.names.lookup x = some .local := by first | exact .inl rfl | exact .inr rfl) : PSn X W (.Assign [.Name x pos'] a pos) (nSet i fa) := PS.imp (ps_set hN hi hx h hs hf) fun D σ H q => by
  obtain ⟨F, G, ρ, κ, hk, R, q⟩ := q
  refine ⟨F, G, ρ, κ, hk, R, mf _ _ _ _ _ _ (fun r ρ1 κ1 q => ?_) (fun e ρ' κ' z => ?_) q⟩
  · intro v G1 H1 hk1 s1 R1 r1
    obtain ⟨ρ2, e2, q⟩ := oq_iff.mp q
    exact q _ G1 H1 hk1 s1 ⟨R1.cl, R1.ds, R1.rp.put r1 e2⟩
  · exact fun G' H' hk' cls d s' R' v => z σ G' H' hk' cls d s' R' v
def nA (K : PySem.W.Frag) (mg : Str → Option Value) (W : WX) (f : NA) : TA := fun σ H Q => ∃ F G ρ κ hk, RepN K F G H σ ρ κ hk ∧ f ρ κ (fun rs ρ' κ' => ∀ vs G' H' hk', Same G G' → RepN K F G' H' σ ρ' κ' hk' → RNs K G' σ rs vs → Q vs H') (erK K mg W F G σ)
def PAn (X : Cx) (W : WX) (es : List Expr) (f : NA) : Prop := PA X es (nA X.K X.mg W f)
theorem an_up {es : List Expr} {f : Ax} (h : PAv X es f) : PAn X W es (up f) := PA.imp h fun σ H Q q => by
  obtain ⟨F, G, ρ, κ, hk, R, q⟩ := q
  obtain ⟨r, ρ', e1, k⟩ := okQ.ex q
  exact ⟨ln F hk, G, ρ, r, ρ', R.rp, e1, fun v G' H' s R' r' => k v G' H' hk s ⟨R.cl.mono s, R.ds, R'⟩ r'⟩
def nCons (f : NE) (g : NA) : NA := nBind f fun r => nBind g fun rs ρ κ Q _ => Q (r.nrm :: rs) ρ κ
theorem mono_cons {fs : NA} (mf : Mono fa) (mg : Mono fs) : Mono (nCons fa fs) := mono_bind mf fun r => mono_bind mg fun rs ρ κ Q Q' E E' hq _ h => hq _ _ _ h
theorem an_cons {es : List Expr} {fs : NA} (mf : Mono fa) (mg : Mono fs) (he : PEn X W a fa) (hs : PAn X W es fs) (hst : starEach (a :: es) X.env = (false, eval a X.env) :: starEach es X.env := by rfl) : PAn X W (a :: es) (nCons fa fs) := PA.imp (pa_cons he hs hst) fun σ H Q q => by
  obtain ⟨F, G, ρ, κ, hk, R, q⟩ := q
  refine ⟨F, G, ρ, κ, hk, R, mf _ _ _ _ _ _ (fun r ρ1 κ1 q => ?_) (fun e ρ' κ' z => z) q⟩
  intro x G1 H1 hk1 s1 R1 q1
  obtain ⟨G2, t2, R2, n2⟩ := nrm_step R1.rp q1
  refine ⟨F, G2, ρ1, κ1, hk1, ⟨R1.cl.mono t2, R1.ds, R2⟩, mg _ _ _ _ _ _ (fun rs ρ2 κ2 q => ?_) (fun e ρ' κ' z => erK.mono (s1.trans t2) z) q⟩
  intro ys G3 H3 hk3 s3 R3 q3
  exact q _ G3 H3 hk3 ((s1.trans t2).trans s3) R3 ⟨x, ys, rfl, n2.mono s3, q3⟩
def nTup (fs : NA) : NE := nBind fs fun rs ρ κ Q _ => oq (dsOf rs) fun ds => ds.length ≤ 16777216 ∧ Q (.d (.tup ds)) ρ κ
def nLst (fs : NA) : NE := nBind fs fun rs ρ κ Q _ => oq (dsOf rs) fun ds => ds.length ≤ 16777216 ∧ Q (.own ds) ρ κ
theorem mono_tup {fs : NA} (mg : Mono fs) : Mono (nTup fs) := mono_bind mg fun rs ρ κ Q Q' E E' hq _ h => by
  obtain ⟨ds, e, h1, h⟩ := oq_iff.mp h
  exact oq_iff.mpr ⟨ds, e, h1, hq _ _ _ h⟩
theorem mono_lst {fs : NA} (mg : Mono fs) : Mono (nLst fs) := mono_bind mg fun rs ρ κ Q Q' E E' hq _ h => by
  obtain ⟨ds, e, h1, h⟩ := oq_iff.mp h
  exact oq_iff.mpr ⟨ds, e, h1, hq _ _ _ h⟩
theorem en_tup {es : List Expr} {fs : NA} {j : Nat} (mg : Mono fs) (hs : PAn X W es fs) : PEn X W (.Tuple es j pos) (nTup fs) := PE.imp (pe_tup hs) fun σ H Q q => by
  obtain ⟨F, G, ρ, κ, hk, R, q⟩ := q
  refine ⟨F, G, ρ, κ, hk, R, mg _ _ _ _ _ _ (fun rs ρ1 κ1 q => ?_) (fun e ρ' κ' z => z) q⟩
  intro vs G1 H1 hk1 s1 R1 q1
  obtain ⟨ds, e2, hl, q⟩ := oq_iff.mp q
  have hr := ds_of q1 e2
  refine ⟨by rw [sizeLine_num, hr.length]; exact hl, fun p hp => ?_⟩
  obtain ⟨G2, t2, R2, q2⟩ := rz_done R1.rp (RZ.tup (G := G1) hp hr)
  exact q _ G2 _ hk1 (s1.trans t2) ⟨R1.cl.mono t2, R1.ds, R2⟩ q2
theorem en_lst {es : List Expr} {fs : NA} (mg : Mono fs) (hs : PAn X W es fs) : PEn X W (.List es pos) (nLst fs) := PE.imp (pe_lst hs) fun σ H Q q => by
  obtain ⟨F, G, ρ, κ, hk, R, q⟩ := q
  refine ⟨F, G, ρ, κ, hk, R, mg _ _ _ _ _ _ (fun rs ρ1 κ1 q => ?_) (fun e ρ' κ' z => z) q⟩
  intro vs G1 H1 hk1 s1 R1 q1
  obtain ⟨ds, e2, hl, q⟩ := oq_iff.mp q
  have hr := ds_of q1 e2
  refine ⟨by rw [sizeLine_num, hr.length]; exact hl, fun p hp => ?_⟩
  obtain ⟨G2, t2, R2, q2⟩ := rz_done R1.rp (RZ.lst (G := G1) hp hr)
  exact q _ G2 _ hk1 (s1.trans t2) ⟨R1.cl.mono t2, R1.ds, R2⟩ q2
end
end M
namespace M
open PySem PySem.Spec PyProof.Rows L2 TL
abbrev Fn := List SV → Ck → (RV → List SV → Ck → Prop) → (Er → List SV → Ck → Prop) → Prop
def MonoF (f : Fn) : Prop := ∀ as κ (Q Q' : RV → List SV → Ck → Prop) (E E' : Er → List SV → Ck → Prop), (∀ r as' κ', Q r as' κ' → Q' r as' κ') → (∀ e as' κ', E e as' κ' → E' e as' κ') → f as κ Q E → f as κ Q' E'
def spN (K : PySem.W.Frag) (mg : Str → Option Value) (f : Fn) : Sp := fun vs H Q E => ∃ F G args κ hk, RepN K F G H (vs.map some) (args.map some) κ hk ∧ (∀ (k : Nat) (b : Bool) (xs : List D), args[k]? = some (SV.own b xs) → b = true) ∧
  f args κ (fun r as κ' => ∀ v G' H' hk', Same G G' → RepN K F G' H' (vs.map some) (as.map some) κ' hk' → RR K (ln F hk') G' H' (vs.map some) (as.map some) r v → Q v H')
    (fun e as κ' => ∀ G' H' hk' cls d, Same G G' → RepN K F G' H' (vs.map some) (as.map some) κ' hk' → ErV K mg G' e cls d → E cls d H')
def nCall (f : Fn) (fs : NA) : NE := nBind fs fun rs ρ1 κ1 Q E => (bors rs).Nodup ∧ oq (argsOf ρ1 rs) fun args => f args κ1 (fun r as κ2 => nobor r ∧ oq (give rs as ρ1) fun ρ2 => Q r ρ2 κ2) (fun e as κ2 => oq (give rs as ρ1) fun ρ2 => E e ρ2 κ2)
theorem mono_call {f : Fn} {fs : NA} (mf : MonoF f) (ms : Mono fs) : Mono (nCall f fs) := mono_bind ms fun rs ρ κ Q Q' E E' hq he h => by
  obtain ⟨h1, h⟩ := h
  obtain ⟨args, e, h⟩ := oq_iff.mp h
  refine ⟨h1, oq_iff.mpr ⟨args, e, mf _ _ _ _ _ _ (fun r as κ2 q => ?_) (fun er as κ2 q => ?_) h⟩⟩
  · obtain ⟨ρ2, e2, q2⟩ := oq_iff.mp q.2
    exact ⟨q.1, oq_iff.mpr ⟨ρ2, e2, hq _ _ _ q2⟩⟩
  · obtain ⟨ρ2, e2, q2⟩ := oq_iff.mp q
    exact oq_iff.mpr ⟨ρ2, e2, he _ _ _ q2⟩
theorem read_callN {K : PySem.W.Frag} {mg : Str → Option Value} {W : WX} {f : Fn} {fs : NA} {σ : Sg} {H : Hp} {Q : VK} (mf : MonoF f) (ms : Mono fs) (h : nE K mg W (nCall f fs) σ H Q) : nA K mg W fs σ H fun vs H1 => spN K mg f vs H1 Q (fun cls d H' => W cls d σ H') := by
  obtain ⟨F, G, ρ, κ, hk, R, h⟩ := h
  refine ⟨F, G, ρ, κ, hk, R, ms _ _ _ _ _ _ (fun rs ρ1 κ1 q => ?_) (fun _ _ _ z => z) h⟩
  intro vs G1 H1 hk1 s1 R1 q1
  obtain ⟨hnd, q⟩ := q
  obtain ⟨args, e2, q⟩ := oq_iff.mp q
  obtain ⟨l1, a1, a2⟩ := argsOf_get e2
  obtain ⟨l2, n1⟩ := q1.get
  let A : Addr → Prop := fun p => ∃ i b xs, i ∈ bors rs ∧ oAt ρ1 i b xs ∧ vAt σ i (.ref p)
  have decA : ∀ p, Decidable (A p) := fun p => Classical.propDecidable _
  have hkn : ∀ {p}, (ln F hk1).hp p = none → hk1 p = none ∧ F.hp p = none := fun {p} z => by
    have z : (match hk1 p with | some o => some o | none => F.hp p) = none := z
    cases e : hk1 p with
    | none => rw [e] at z; exact ⟨rfl, z⟩
    | some o => rw [e] at z; cases z
  let F' : Fm := ⟨fun b => if G1 b = none ∧ ¬ A b ∧ hk1 b = none then H1 b else none, fun j => match vs[j]? with | some (.ref p) => some p | _ => none⟩
  have fp : ∀ b o, F'.hp b = some o → G1 b = none ∧ ¬ A b ∧ hk1 b = none ∧ H1 b = some o := fun b o q => by
    have q : (if G1 b = none ∧ ¬ A b ∧ hk1 b = none then H1 b else none) = some o := q
    split at q
    · rename_i z; exact ⟨z.1, z.2.1, z.2.2, q⟩
    · cases q
  have pf : ∀ b o, G1 b = none → ¬ A b → hk1 b = none → H1 b = some o → F'.hp b = some o := fun b o z1 z2 z4 z3 => by
    show (if G1 b = none ∧ ¬ A b ∧ hk1 b = none then H1 b else none) = some o
    rw [if_pos ⟨z1, z2, z4⟩]; exact z3
  have slot : ∀ j b xs, args[j]? = some (SV.own b xs) → b = true ∧ ∃ i c p us, rs[j]? = some (RV.bor i) ∧ oAt ρ1 i c xs ∧ vAt σ i (.ref p) ∧ vs[j]? = some (V.ref p) ∧ H1 p = some (.lst us) ∧ G1 p = none ∧ (ln F hk1).hp p = none ∧ RDs K G1 xs us ∧ A p := fun j b xs q => by
    obtain ⟨hb, i, c, z1, z2⟩ := a2 j b xs q
    obtain ⟨p, us, h1, h2, h3, h4, h5, h6⟩ := R1.rp.own i c xs z2
    obtain ⟨v, w1, w2⟩ := n1 j _ z1
    have w2 : vAt σ i v := w2
    cases h1.inj w2
    exact ⟨hb, i, c, p, us, z1, z2, h1, w1, h2, h3, h4, h5, i, c, xs, mem_bors.mpr ⟨j, z1⟩, z2, h1⟩
  have notA : ∀ b o, F.hp b = some o → ¬ A b := fun b o z => by
    rintro ⟨i, c, xs, w1, w2, w3⟩
    obtain ⟨p, us, k1, k2, k3, k4, _⟩ := R1.rp.own i c xs w2
    cases k1.inj w3
    rw [(hkn k4).2] at z; cases z
  have lnF : ∀ b o, F.hp b = some o → hk1 b = none ∧ (ln F hk1).hp b = some o := fun b o z => by
    have e : hk1 b = none := by
      cases e : hk1 b with
      | none => rfl
      | some u => rw [R1.ds b u e] at z; cases z
    refine ⟨e, ?_⟩
    show (match hk1 b with | some o => some o | none => F.hp b) = some o
    rw [e]; exact z
  have F'of : ∀ b o, F.hp b = some o → F'.hp b = some o := fun b o z => by
    obtain ⟨e, z2⟩ := lnF b o z
    exact pf b o (R1.rp.fg b o z2) (notA b o z) e (R1.rp.fh b o z2)
  have R2 : RepN K F' G1 H1 (vs.map some) (args.map some) κ1 hk1 := by
    refine ⟨R1.cl, fun p o z => ?_, R1.rp.gh, fun b o q => ?_, fun b o q => ?_, by simp [l1, l2], fun j x q => ?_, fun j b xs q => ?_, fun i j p b c xs ys hij q1 q2 q3 q4 => ?_⟩
    · cases e : F'.hp p with
      | none => rfl
      | some u => rw [(fp p u e).2.2.1] at z; cases z
    · have q : (match hk1 b with | some o => some o | none => F'.hp b) = some o := q
      cases e : hk1 b with
      | none => rw [e] at q; exact (fp b o q).2.2.2
      | some u =>
        rw [e] at q; cases q
        refine R1.rp.fh b _ ?_
        show (match hk1 b with | some o => some o | none => F.hp b) = _
        rw [e]
    · have q : (match hk1 b with | some o => some o | none => F'.hp b) = some o := q
      cases e : hk1 b with
      | none => rw [e] at q; exact (fp b o q).1
      | some u =>
        refine R1.rp.fg b u ?_
        show (match hk1 b with | some o => some o | none => F.hp b) = _
        rw [e]
    · obtain ⟨v, w1, w2⟩ := n1 j _ (a1 j x (at_map.mp q))
      exact ⟨v, at_map.mpr w1, w2⟩
    · obtain ⟨hb, i, c, p, us, z1, z2, z3, z4, z5, z6, z7, z8, z9⟩ := slot j b xs (at_map.mp q)
      refine ⟨p, us, at_map.mpr z4, z5, z6, ?_, z8, fun _ => ?_⟩
      · show (match hk1 p with | some o => some o | none => F'.hp p) = none
        rw [(hkn z7).1]
        show (if G1 p = none ∧ ¬ A p ∧ hk1 p = none then H1 p else none) = none
        rw [if_neg (fun z => z.2.1 z9)]
      · show (match vs[j]? with | some (.ref p) => some p | _ => none) = some p
        rw [z4]
    · obtain ⟨_, i1, c1, p1, us1, z1, z2, z3, z4, _⟩ := slot i b xs (at_map.mp q1)
      obtain ⟨_, i2, c2, p2, us2, y1, y2, y3, y4, _⟩ := slot j c ys (at_map.mp q2)
      have e1 := at_map.mp q3
      have e2 := at_map.mp q4
      rw [z4] at e1; cases e1
      rw [y4] at e2; cases e2
      have hi : i1 ≠ i2 := fun z => hij (bors_uniq hnd z1 (z ▸ y1))
      exact R1.rp.sep i1 i2 p c1 c2 _ _ hi z2 y2 z3 y3
  have back : ∀ {as : List SV} {κ2 : Ck} {G' H' hk' : Hp} {ρ2 : Sl}, give rs as ρ1 = some ρ2 → Same G1 G' → RepN K F' G' H' (vs.map some) (as.map some) κ2 hk' → RepN K F G' H' σ ρ2 κ2 hk' ∧
      ∀ i b ys, oAt ρ2 i b ys → ∃ p, vAt σ i (.ref p) ∧ ((∃ j c zs, as[j]? = some (SV.own c zs) ∧ vs[j]? = some (V.ref p)) ∨ F'.hp p ≠ none) := fun {as κ2 G' H' hk' ρ2} e4 s' R' => by
    obtain ⟨l3, g1⟩ := give_get e4 hnd
    have hkn' : ∀ {p}, (ln F' hk').hp p = none → hk' p = none ∧ F'.hp p = none := fun {p} z => by
      have z : (match hk' p with | some o => some o | none => F'.hp p) = none := z
      cases e : hk' p with
      | none => rw [e] at z; exact ⟨rfl, z⟩
      | some o => rw [e] at z; cases z
    have F'n : ∀ {p}, F'.hp p = none → F.hp p = none := fun {p} z => by
      cases e : F.hp p with
      | none => rfl
      | some o => rw [F'of p o e] at z; cases z
    have hkF : ∀ p o, F'.hp p = some o → hk' p = none := fun p o z => by
      cases e : hk' p with
      | none => rfl
      | some u => rw [R'.ds p u e] at z; cases z
    have lnup : ∀ b o, (ln F hk').hp b = some o → (ln F' hk').hp b = some o := fun b o q => by
      have q : (match hk' b with | some o => some o | none => F.hp b) = some o := q
      show (match hk' b with | some o => some o | none => F'.hp b) = some o
      cases e : hk' b with
      | none => rw [e] at q; exact F'of b o q
      | some u => rw [e] at q; exact q
    have own3 : ∀ i b ys, oAt ρ2 i b ys → ∃ p us, vAt σ i (.ref p) ∧ H' p = some (.lst us) ∧ G' p = none ∧ (ln F hk').hp p = none ∧ RDs K G' ys us ∧ (b = true → F.par i = some p) ∧ (∃ xs, oAt ρ1 i b xs) ∧ ((∃ j c zs, as[j]? = some (SV.own c zs) ∧ vs[j]? = some (V.ref p)) ∨ F'.hp p ≠ none) := fun i b ys q => by
      rcases g1 i _ q with ⟨j, b', c, ys', xs, h1, h2, h3, h4⟩ | ⟨h1, h2⟩
      · cases h3
        obtain ⟨p, us, k1, k2, k3, k4, k5, k6⟩ := R1.rp.own i _ xs h4
        obtain ⟨v', w1, w2⟩ := n1 j _ h1
        have w2 : vAt σ i v' := w2
        cases k1.inj w2
        obtain ⟨p', us', m1, m2, m3, m4, m5, m6⟩ := R'.rp.own j c ys (at_map.mpr h2)
        have e := at_map.mp m1
        rw [w1] at e; cases e
        refine ⟨p, us', k1, m2, m3, ?_, m5, k6, ⟨xs, h4⟩, .inl ⟨j, c, ys, h2, w1⟩⟩
        show (match hk' p with | some o => some o | none => F.hp p) = none
        rw [(hkn' m4).1]
        exact (hkn k4).2
      · obtain ⟨p, us, k1, k2, k3, k4, k5, k6⟩ := R1.rp.own i b ys h2
        have nA : ¬ A p := by
          rintro ⟨i', b', xs', w1, w2, w3⟩
          have hi : i' ≠ i := fun z => h1 (z ▸ w1)
          exact R1.rp.sep i' i p b' b xs' ys hi w2 h2 w3 k1
        have z := pf p _ k3 nA (hkn k4).1 k2
        have z2 : (ln F' hk').hp p = some (.lst us) := by
          show (match hk' p with | some o => some o | none => F'.hp p) = _
          rw [hkF p _ z]; exact z
        refine ⟨p, us, k1, R'.rp.fh p _ z2, R'.rp.fg p _ z2, ?_, RDs.mono s' _ _ k5, k6, ⟨ys, h2⟩, .inr (by rw [z]; simp)⟩
        show (match hk' p with | some o => some o | none => F.hp p) = none
        rw [hkF p _ z]
        exact (hkn k4).2
    refine ⟨⟨R'.cl, fun p o z => F'n (R'.ds p o z), R'.rp.gh, fun b o q => R'.rp.fh b o (lnup b o q), fun b o q => R'.rp.fg b o (lnup b o q), by rw [l3]; exact R1.rp.len, fun i x q => ?_, fun i b ys q => ?_, fun i j p b c xs ys hij q1 q2 q3 q4 => ?_⟩, fun i b ys q => ?_⟩
    · rcases g1 i _ q with ⟨j, b', c, ys', xs, h1, h2, h3, h4⟩ | ⟨h1, h2⟩
      · cases h3
      · obtain ⟨v, w1, w2⟩ := R1.rp.dat i x h2
        exact ⟨v, w1, RD.mono s' _ _ w2⟩
    · obtain ⟨p, us, z1, z2, z3, z4, z5, z6, _⟩ := own3 i b ys q
      exact ⟨p, us, z1, z2, z3, z4, z5, z6⟩
    · obtain ⟨_, _, _, _, _, _, _, _, ⟨xs1, o1⟩, _⟩ := own3 i b xs q1
      obtain ⟨_, _, _, _, _, _, _, _, ⟨xs2, o2⟩, _⟩ := own3 j c ys q2
      exact R1.rp.sep i j p b c xs1 xs2 hij o1 o2 q3 q4
    · obtain ⟨p, us, z1, z2, z3, z4, z5, z6, z7, z8⟩ := own3 i b ys q
      exact ⟨p, z1, z8⟩
  refine ⟨F', G1, args, κ1, hk1, R2, fun j b xs q => (slot j b xs q).1, mf _ _ _ _ _ _ (fun r as κ2 q => ?_) (fun e as κ2 q => ?_) q⟩
  · intro v G' H' hk' s' R' q'
    obtain ⟨hnb, q⟩ := q
    obtain ⟨ρ2, e4, q⟩ := oq_iff.mp q
    obtain ⟨R3, o3⟩ := back e4 s' R'
    refine q v G' H' hk' (s1.trans s') R3 ?_
    cases r with
    | d x => exact q'
    | bor i => exact hnb.elim
    | own xs =>
      obtain ⟨q, us, rfl, h2, h3, h4, h5, h6⟩ := q'
      have h4' : (match hk' q with | some o => some o | none => F'.hp q) = none := h4
      have hn : hk' q = none := by
        cases e : hk' q with
        | none => rfl
        | some o => rw [e] at h4'; cases h4'
      rw [hn] at h4'
      refine ⟨q, us, rfl, h2, h3, ?_, h5, fun i b ys o1 o2 => ?_⟩
      · show (match hk' q with | some o => some o | none => F.hp q) = none
        rw [hn]
        cases e : F.hp q with
        | none => rfl
        | some o => rw [F'of q o e] at h4'; cases h4'
      · obtain ⟨p, z1, z8⟩ := o3 i b ys o1
        cases z1.inj o2
        rcases z8 with ⟨j, c, zs, y1, y2⟩ | z8
        · exact h6 j c zs (at_map.mpr y1) (at_map.mpr y2)
        · exact z8 h4'
  · intro G' H' hk' cls d s' R' hv
    obtain ⟨ρ2, e4, q⟩ := oq_iff.mp q
    exact q G' H' hk' cls d (s1.trans s') (back e4 s' R').1 hv
end M
namespace M
open PySem PySem.Spec PyProof.Rows L2 TL
def runN (n m : Nat) (body : NS) : Fn := fun args κ Q E => args.length = m ∧ body (args.map some ++ List.replicate (n - args.length) none) κ
  (fun fl ρ κ' => oq (fin fl ρ) fun r => oq (outs args 0 ρ) fun as => Q r as κ') (fun e ρ κ' => oq (outs args 0 ρ) fun as => E e as κ')
theorem mono_run {n m : Nat} {body : NS} (mb : Mono body) : MonoF (runN n m body) := fun as κ Q Q' E E' hq he h => by
  refine ⟨h.1, mb _ _ _ _ _ _ (fun fl ρ κ' q => ?_) (fun e ρ κ' q => ?_) h.2⟩
  · obtain ⟨r, e1, q⟩ := oq_iff.mp q
    obtain ⟨as', e2, q⟩ := oq_iff.mp q
    exact oq_iff.mpr ⟨r, e1, oq_iff.mpr ⟨as', e2, hq _ _ _ q⟩⟩
  · obtain ⟨as', e2, q⟩ := oq_iff.mp q
    exact oq_iff.mpr ⟨as', e2, he _ _ _ q⟩
theorem outs_rep {K : PySem.W.Frag} {F F' : Fm} {G G' H H' : Hp} {vs : List V} {args as : List SV} {σ' : Sg} {ρ' : Sl} (hpar : F'.par = F.par) (hsub : ∀ p, F.hp p = none → True) (R : Rep K F G H (vs.map some) (args.map some)) (ht : ∀ (k : Nat) (b : Bool) (xs : List D), args[k]? = some (SV.own b xs) → b = true) (s : Same G G') (R' : Rep K F' G' H' σ' ρ') (e2 : outs args 0 ρ' = some as) :
    Rep K F' G' H' (vs.map some) (as.map some) := by
  obtain ⟨g1, g2, g3⟩ := outs_get e2
  have key : ∀ k b ys, oAt (as.map some) k b ys → ∃ p, vAt (vs.map some) k (.ref p) ∧ vAt σ' k (.ref p) ∧ oAt ρ' k true ys ∧ b = true ∧ ∃ c xs, oAt (args.map some) k c xs := fun k b ys e => by
    obtain ⟨z1, ⟨c, xs, z2⟩, z3⟩ := g3 k b ys (at_map.mp e)
    have z3 : oAt ρ' k true ys := by simpa using z3
    have hc := ht k c xs z2
    obtain ⟨p, us, h1, h2, h3, h4, h5, h6⟩ := R.own k c xs (at_map.mpr z2)
    obtain ⟨p', us', k1, k2, k3, k4, k5, k6⟩ := R'.own k true ys z3
    have e1 : F'.par k = some p := by rw [hpar]; exact h6 hc
    have : p' = p := Option.some.inj ((k6 rfl).symm.trans e1)
    subst this
    exact ⟨p', h1, k1, z3, z1, c, xs, at_map.mpr z2⟩
  refine ⟨R'.gh, R'.fh, R'.fg, ?_, fun i x e => ?_, fun i b xs e => ?_, fun i j p b c xs ys hij f1 f2 f3 f4 => ?_⟩
  · have := R.len
    simp at this ⊢; omega
  · obtain ⟨w, h1, h2⟩ := R.dat i x (at_map.mpr (g2 i x (at_map.mp e)))
    exact ⟨w, h1, RD.mono s _ _ h2⟩
  · obtain ⟨p, h1, h2, h3, h4, _⟩ := key i b xs e
    obtain ⟨p', us', k1, k2, k3, k4, k5, k6⟩ := R'.own i true xs h3
    have : p' = p := by cases k1.inj h2; rfl
    subst this
    exact ⟨p', us', h1, k2, k3, k4, k5, fun _ => k6 rfl⟩
  · obtain ⟨_, _, _, _, _, c1, x1, o1⟩ := key i b xs f1
    obtain ⟨_, _, _, _, _, c2, x2, o2⟩ := key j c ys f2
    exact R.sep i j p c1 c2 x1 x2 hij o1 o2 f3 f4
theorem outs_res {K : PySem.W.Frag} {F F' : Fm} {G G' H H' : Hp} {vs : List V} {args as : List SV} {σ' : Sg} {ρ' : Sl} {fl : Fl} {r : RV} {v : V} (hpar : F'.par = F.par) (R : Rep K F G H (vs.map some) (args.map some)) (ht : ∀ (k : Nat) (b : Bool) (xs : List D), args[k]? = some (SV.own b xs) → b = true) (s : Same G G') (R' : Rep K F' G' H' σ' ρ')
    (e1 : fin fl ρ' = some r) (e2 : outs args 0 ρ' = some as) (hv : match fl with | .rt q => RR K F' G' H' σ' ρ' q v | _ => v = V.non) : RR K F' G' H' (vs.map some) (as.map some) r v := by
  obtain ⟨g1, g2, g3⟩ := outs_get e2
  have key : ∀ k b ys, oAt (as.map some) k b ys → ∃ p, vAt (vs.map some) k (.ref p) ∧ vAt σ' k (.ref p) ∧ oAt ρ' k true ys := fun k b ys e => by
    obtain ⟨z1, ⟨c, xs, z2⟩, z3⟩ := g3 k b ys (at_map.mp e)
    have z3 : oAt ρ' k true ys := by simpa using z3
    have hc := ht k c xs z2
    obtain ⟨p, us, h1, h2, h3, h4, h5, h6⟩ := R.own k c xs (at_map.mpr z2)
    obtain ⟨p', us', k1, k2, k3, k4, k5, k6⟩ := R'.own k true ys z3
    have e1 : F'.par k = some p := by rw [hpar]; exact h6 hc
    have : p' = p := Option.some.inj ((k6 rfl).symm.trans e1)
    subst this
    exact ⟨p', h1, k1, z3⟩
  cases fl with
  | nx => cases e1; exact hv
  | bk => cases e1
  | ct => cases e1
  | rt q =>
    cases q with
    | d x => cases e1; exact hv
    | own xs =>
      cases e1
      obtain ⟨q, us, rfl, h2, h3, h4, h5, h6⟩ := hv
      refine ⟨q, us, rfl, h2, h3, h4, h5, fun k b ys o1 o2 => ?_⟩
      obtain ⟨p, k1, k2, k3⟩ := key k b ys o1
      have : p = q := by cases k1.inj o2; rfl
      subst this
      exact h6 k true ys k3 k2
    | bor i =>
      unfold fin at e1
      dsimp only at e1
      split at e1
      rotate_left
      · cases e1
      rename_i xs o
      cases e1
      have hv : vAt σ' i v := hv
      obtain ⟨q, us, h1, h2, h3, h4, h5, h6⟩ := R'.own i false xs o
      cases h1.inj hv
      refine ⟨q, us, rfl, h2, h3, h4, h5, fun k b ys o1 o2 => ?_⟩
      obtain ⟨p, k1, k2, k3⟩ := key k b ys o1
      have : p = q := by cases k1.inj o2; rfl
      subst this
      have hik : i ≠ k := fun z => by subst z; cases At.inj o k3
      exact R'.sep i k p false true xs ys hik o k3 hv k2
section
variable {P : Program} {w : World} {K : PySem.W.Frag} {mg : Str → Option Value} {base : Heap}
theorem fn_bodyN {N ps : List Str} {body : NS} {vs : List V} {H : Hp} {Q : VK} {E : XK} (mb : Mono body) (h : spN K mg (runN N.length ps.length body) vs H Q E) : nS K mg (fun cls d _ H' => E cls d H') body { nx := fun _ H' => Q .non H', rt := Q } (L2.start N vs) H := by
  obtain ⟨F, G, args, κ, hk, R, ht, hl, q⟩ := h
  have hlen : args.length = vs.length := by simpa using R.rp.len
  have R0 : RepN K F G H (L2.start N vs) (args.map some ++ List.replicate (N.length - args.length) none) κ hk := by
    unfold L2.start
    rw [hlen]
    exact ⟨R.cl, R.ds, R.rp.start⟩
  refine ⟨F, G, _, κ, hk, R0, mb _ _ _ _ _ _ (fun fl ρ' κ' q => ?_) (fun e ρ' κ' q => ?_) q⟩
  · intro σ' G' H' hk' s' R'
    obtain ⟨r, e2, q2⟩ := oq_iff.mp q
    obtain ⟨as, e3, q3⟩ := oq_iff.mp q2
    have z1 : RepN K F G' H' (vs.map some) (as.map some) κ' hk' := ⟨R'.cl, R'.ds, outs_rep (F := ln F hk) (F' := ln F hk') rfl (fun _ _ => trivial) R.rp ht s' R'.rp e3⟩
    cases fl with
    | nx => exact q3 .non G' H' hk' s' z1 (outs_res (F := ln F hk) (F' := ln F hk') rfl R.rp ht s' R'.rp e2 e3 rfl)
    | bk => cases e2
    | ct => cases e2
    | rt u =>
      intro v hv
      exact q3 v G' H' hk' s' z1 (outs_res (F := ln F hk) (F' := ln F hk') rfl R.rp ht s' R'.rp e2 e3 hv)
  · intro σ' G' H' hk' cls d s' R' hv
    obtain ⟨as, e3, q⟩ := oq_iff.mp q
    exact q G' H' hk' cls d s' ⟨R'.cl, R'.ds, outs_rep (F := ln F hk) (F' := ln F hk') rfl (fun _ _ => trivial) R.rp ht s' R'.rp e3⟩ hv
end
end M
namespace M
open PySem PySem.Spec PyProof.Rows L2 TL
section
variable {P : Program} {w : World} {K : PySem.W.Frag} {mg : Str → Option Value} {base : Heap}
theorem fn_okN {x qual : Str} {st : Stmt} {f : Addr} {fd : FuncData} {N ps : List Str} {k : Nat} {body : NS} (F : Fun K x qual st f fd) (S : FnScope N ps (defScope st)) (mb : Mono body)
    (hb : ∀ (cdv : Value) (A : Around) (outer : List Env) (s : Shared) (H : Hp) (E : XK), Room k (A.deeper (envOfC qual (defScope st) s.heap.objs.size f cdv)) →
      Takes (cxOf (L2.CX P w) P w K mg base N qual (defScope st) f cdv A outer s H E) (fun cls d _ H' => E cls d H') →
      PBn (cxOf (L2.CX P w) P w K mg base N qual (defScope st) f cdv A outer s H E) (fun cls d _ H' => E cls d H') (defBody st) body) : FnOk P w K mg base (L2.CX P w) (k + 1) f fd ps (spN K mg (runN N.length ps.length body)) := by
  refine F.okX S (fun vs H Q E h => ?_) (fun cdv A outer s H vs Q E hr h => ⟨_, hb cdv A outer s H E hr ?_, fn_bodyN mb h⟩)
  · obtain ⟨F, G, args, κ, hk, R, ht, hl, q⟩ := h
    have := R.rp.len
    simp at this
    omega
  · exact takes_of rfl rfl rfl rfl
end
section
variable {X : Cx} {W : WX} {x : Str} {e : Expr} {es : List Expr} {fs : NA} {p pos : Pos}
theorem en_call {k : Nat} {f : Addr} {fd : FuncData} {ps : List Str} {F : Fn} (G : FnOk X.prog X.w X.K X.mg X.base (L2.CX X.prog X.w) k f fd ps (spN X.K X.mg F)) (mf : MonoF F) (ms : Mono fs) (tk : Takes X W) (hr : Room k X.A) (hm : X.mg x = some (.ref f)) (hk : PySem.W.keepIn X.K (.ref f) = true) (hb : Binds X.K fd ps []) (ha : PAn X W (e :: es) fs)
    (hg : Gl X x := by rfl) (hdb : (x == ("__debug__" : Str)) = false := by decide)
    (he : starEach (e :: es) X.env = (false, eval e X.env) :: starEach es X.env := by rfl) (hpl : (backTo pos (starEach es X.env)).any (·.1) = false := by rfl) : PEn X W (.Call (.Name x p) (e :: es) [] pos) (nCall F fs) :=
  PE.imp (pe_callS (E := fun σ => WE W σ) G hr hg hm hk hb (fun σ => passAt tk σ) ha hdb he hpl) fun σ H Q q => read_callN mf ms q
end
end M
namespace M
open PySem PySem.Spec PyProof.Rows L2 TL
def spG (K : PySem.W.Frag) (ns : List Str) : Sp := fun vs H Q _ => ∃ a C us, vs = .ref a :: us ∧ us.length = ns.length ∧ OexC K C ∧ (∀ n ∈ ns, PySem.W.findIn K (.ref C) n = some none) ∧ H a = some (exo a C none) ∧
  ∀ dx H2, H dx = none → dx ≠ a → H2 a = some (exo a C (some dx)) → H2 dx = some (exd dx (ns.zip us).reverse) → (∀ b, b ≠ a → b ≠ dx → H2 b = H b) → Q .non H2
theorem spG_len {K : PySem.W.Frag} {ns : List Str} {vs : List V} {H : Hp} {Q : VK} {E : XK} (h : spG K ns vs H Q E) : vs.length = ns.length + 1 := by
  obtain ⟨a, C, us, rfl, hl, _⟩ := h
  simp [hl]
theorem init_1 {P : Program} {w : World} {K : PySem.W.Frag} {mg : Str → Option Value} {base : Heap} {x qual : Str} {st : Stmt} {f : Addr} {fd : FuncData} {N : List Str} {k : Nat} {n0 : Str} (hN : N.length = 2) (F : Fun K x qual st f fd) (S : FnScope N N (defScope st))
    (hb : ∀ (cdv : Value) (A : Around) (outer : List Env) (s : Shared) (H : Hp) (E : XK), PSs (cxOf CX0 P w K mg base N qual (defScope st) f cdv A outer s H E).nox (defBody st) (tOst K n0 (tVar 0) (tVar 1))) : FnOk P w K mg base CX0 (k + 1) f fd N (spG K [n0]) := by
  refine F.ok S (fun vs H Q E h => by rw [spG_len h, hN]; rfl) (fun cdv A outer s H vs Q E hr h => ⟨_, hb cdv A outer s H E, ?_⟩)
  obtain ⟨a, C, us, rfl, hl, hC, hn, ha, q⟩ := h
  match us, hl with
  | [v], _ =>
    have hs : L2.start N [.ref a, v] = [some (.ref a), some v] := by
      unfold L2.start
      simp [hN]
    rw [hs]
    refine ⟨v, rfl, .ref a, rfl, a, C, rfl, hC, hn _ (by simp), .inl ⟨ha, fun dx hd hne => ?_⟩⟩
    refine q dx _ hd hne upd_same (by rw [upd_ne hne, upd_same]; rfl) fun b h1 h2 => by rw [upd_ne h1, upd_ne h2]
theorem init_2 {P : Program} {w : World} {K : PySem.W.Frag} {mg : Str → Option Value} {base : Heap} {x qual : Str} {st : Stmt} {f : Addr} {fd : FuncData} {N : List Str} {k : Nat} {n0 n1 : Str} (hN : N.length = 3) (F : Fun K x qual st f fd) (S : FnScope N N (defScope st))
    (hb : ∀ (cdv : Value) (A : Around) (outer : List Env) (s : Shared) (H : Hp) (E : XK), PSs (cxOf CX0 P w K mg base N qual (defScope st) f cdv A outer s H E).nox (defBody st) (fun D σ H => tOst K n0 (tVar 0) (tVar 1) { D with nx := fun σ' H' => tOst K n1 (tVar 0) (tVar 2) D σ' H' } σ H)) : FnOk P w K mg base CX0 (k + 1) f fd N (spG K [n0, n1]) := by
  refine F.ok S (fun vs H Q E h => by rw [spG_len h, hN]; rfl) (fun cdv A outer s H vs Q E hr h => ⟨_, hb cdv A outer s H E, ?_⟩)
  obtain ⟨a, C, us, rfl, hl, hC, hn, ha, q⟩ := h
  match us, hl with
  | [v, w], _ =>
    have hs : L2.start N [.ref a, v, w] = [some (.ref a), some v, some w] := by
      unfold L2.start
      simp [hN]
    rw [hs]
    refine ⟨v, rfl, .ref a, rfl, a, C, rfl, hC, hn _ (by simp), .inl ⟨ha, fun dx hd hne => ?_⟩⟩
    refine ⟨w, rfl, .ref a, rfl, a, C, rfl, hC, hn _ (by simp), .inr ⟨dx, _, upd_same, by rw [upd_ne hne, upd_same], by simp, ?_⟩⟩
    refine q dx _ hd hne (by rw [upd_ne (Ne.symm hne), upd_same]) (by rw [upd_same]; rfl) fun b h1 h2 => by rw [upd_ne h2, upd_ne h1, upd_ne h2]
structure ErF (K : PySem.W.Frag) (mg : Str → Option Value) (x qual : Str) (st : Stmt) (ns : List Str) : Prop where
  ex : ∃ (C f : Addr) (fd : FuncData), mg x = some (.ref C) ∧ OexC K C ∧ XfC K C ∧ (∀ n ∈ ns, PySem.W.findIn K (.ref C) n = some none) ∧ PySem.W.findIn K (.ref C) "__init__" = some (some (.ref f)) ∧ PySem.W.typeIn K (.ref f) = some (.type "function") ∧ Fun K "__init__" qual st f fd
structure ErOk (P : Program) (w : World) (K : PySem.W.Frag) (mg : Str → Option Value) (base : Heap) (x : Str) (k : Nat) (ns : List Str) : Prop where
  ex : ∃ (C f : Addr) (fd : FuncData) (ps : List Str), mg x = some (.ref C) ∧ OexC K C ∧ (∀ n ∈ ns, PySem.W.findIn K (.ref C) n = some none) ∧ PySem.W.findIn K (.ref C) "__init__" = some (some (.ref f)) ∧ PySem.W.typeIn K (.ref f) = some (.type "function") ∧ Binds K fd ps [] ∧ FnOk P w K mg base CX0 k f fd ps (spG K ns)
theorem er_of {P : Program} {w : World} {K : PySem.W.Frag} {mg : Str → Option Value} {base : Heap} {x qual : Str} {st : Stmt} {ns ps : List Str} {k : Nat} (T : ErF K mg x qual st ns)
    (h : ∀ (f : Addr) (fd : FuncData), Fun K "__init__" qual st f fd → FnOk P w K mg base CX0 k f fd ps (spG K ns))
    (hb : ∀ (kV doc pm : Value) (an : Option Addr) (cdv ct : Value) (us : List Value), us.length = ps.length →
      bindArgs (PySem.W.fnOf "__init__" qual (defArgs st) (defBody st) (defScope st) .none kV doc pm an cdv ct) ⟨us, []⟩ = pure (ps.zip us)) : ErOk P w K mg base x k ns := by
  obtain ⟨C, f, fd, hm, hO, _, hG, hI, hT, F⟩ := T.ex
  exact ⟨C, f, fd, ps, hm, hO, hG, hI, hT, F.binds hb, h f fd F⟩
def nRaise (c : Str) (ns : List Str) (fs : NA) : NS := nBind fs fun rs ρ κ _ E => oq (dsOf rs) fun ds => ds.length = ns.length ∧ E ⟨c, ns.reverse, ds.reverse⟩ ρ κ
theorem mono_raise {c : Str} {ns : List Str} {fs : NA} (ms : Mono fs) : Mono (nRaise c ns fs) := mono_bind ms fun rs ρ κ Q Q' E E' _ he h => by
  obtain ⟨ds, e, hl, h⟩ := oq_iff.mp h
  exact oq_iff.mpr ⟨ds, e, hl, he _ _ _ h⟩
theorem zip_rev {α β : Type} {l : List α} {m : List β} (h : l.length = m.length) : (l.zip m).reverse = l.reverse.zip m.reverse := by
  induction l generalizing m with
  | nil => simp
  | cons a l ih =>
    cases m with
    | nil => simp at h
    | cons b m =>
      simp at h
      simp only [List.zip_cons_cons, List.reverse_cons, ih h]
      rw [List.zip_append (by simpa using h)]
      rfl
theorem RDs.rev {K : PySem.W.Frag} {H : Hp} : ∀ {ds : List D} {vs : List V}, RDs K H ds vs → RDs K H ds.reverse vs.reverse
  | [], vs, h => by cases h; rfl
  | d :: ds, vs, ⟨x, xs, e1, e2, e3⟩ => by
    subst e1
    simpa using (RDs.rev e3).append (RDs.one e2)
theorem sn_raise {X : Cx} {W : WX} {c : Str} {ns : List Str} {e : Expr} {es : List Expr} {fs : NA} {k : Nat} {p pos pos' : Pos} (ok : ErOk X.prog X.w X.K X.mg X.base c k ns) (hs : ns.length ≤ 900) (hc : X.calm = true) (tk : Takes X W) (hr : Room (k + 1) X.A) (ms : Mono fs) (ha : PAn X W (e :: es) fs) (hg : Gl X c := by rfl)
    (hdb : (c == ("__debug__" : Str)) = false := by decide) (he : starEach (e :: es) X.env = (false, eval e X.env) :: starEach es X.env := by rfl) (hpl : (backTo pos (starEach es X.env)).any (·.1) = false := by rfl) :
    PSn X W (.Raise (some (.Call (.Name c p) (e :: es) [] pos)) none pos') (nRaise c ns fs) := by
  obtain ⟨C, f, fd, ps, hm, hO, hG, hI, hT, hb, G0⟩ := ok.ex
  refine PS.imp (ps_raise hc tk (pmk_oex hO hI hT G0 hr hb .nil pass0 hg hm ha hdb he hpl)) fun D σ H q => ?_
  obtain ⟨F, G, ρ, κ, hk, R, q⟩ := q
  refine ⟨F, G, ρ, κ, hk, R, ms _ _ _ _ _ _ (fun rs ρ1 κ1 q => ?_) (fun er ρ' κ' z => ?_) q⟩
  · intro vs G1 H1 hk1 s1 R1 q1
    obtain ⟨ds, e2, hl, q⟩ := oq_iff.mp q
    have hr := ds_of q1 e2
    have hl2 : vs.length = ns.length := by rw [hr.length, hl]
    refine ⟨by omega, fun a hn => ?_⟩
    refine ⟨a, C, vs, by simp, hl2, hO, hG, upd_same, fun dx H2 hdx hne h1 h2 h3 => ⟨rfl, dx, _, h1, h2, ?_, ?_⟩⟩
    · rw [upd_ne hne] at hdx; exact hdx
    · rw [upd_ne hne] at hdx
      have hh : upd (L2.del H2 a) dx (.xd (ns.zip vs).reverse) = upd H1 dx (.xd (ns.zip vs).reverse) := by
        funext b
        by_cases z1 : b = dx
        · subst z1; rw [upd_same, upd_same]
        · rw [upd_ne z1, upd_ne z1]
          by_cases z2 : b = a
          · subst z2; rw [L2.del_same, hn]
          · rw [L2.del_ne z2, h3 b z2 z1, upd_ne z2]
      rw [hh]
      have gn := R1.rp.gNone hdx
      have sG := Same.updN (o := .xd (ns.zip vs).reverse) gn
      refine q σ (upd G1 dx (.xd (ns.zip vs).reverse)) _ hk1 (.ref C) (some dx) (s1.trans sG) ⟨R1.cl.mono sG, R1.ds, R1.rp.newG hdx⟩ ⟨⟨C, hm, rfl⟩, .inr ⟨dx, vs.reverse, rfl, ?_, by simpa using hl2, RDs.mono sG _ _ hr.rev⟩⟩
      rw [upd_same, zip_rev hl2.symm]
  · exact fun G' H' hk' cls d s' R' v => z σ G' H' hk' cls d s' R' v
end M
namespace M
open PySem PySem.Spec PyProof.Rows L2 TL
def lkD : List Str → List D → Str → Option D
  | n :: ns, x :: xs, f => if n = f then some x else lkD ns xs f
  | _, _, _ => none
theorem lkD_ok {K : PySem.W.Frag} {H : Hp} : ∀ {ns : List Str} {xs : List D} {us : List V} {f : Str} {x : D}, us.length = ns.length → RDs K H xs us → lkD ns xs f = some x → ∃ u, (ns.zip us).lookup f = some u ∧ RD K H x u
  | [], xs, us, f, x, hl, hr, e => by unfold lkD at e; cases e
  | n :: ns, [], us, f, x, hl, hr, e => by unfold lkD at e; cases e
  | n :: ns, d :: xs, us, f, x, hl, ⟨u, us', e1, e2, e3⟩, e => by
    subst e1
    unfold lkD at e
    simp only [List.zip_cons_cons, List.lookup_cons]
    split at e
    · rename_i h
      cases e
      subst h
      exact ⟨u, by simp, e2⟩
    · rename_i h
      have hb : (f == n) = false := by simpa using fun z => h z.symm
      rw [hb]
      exact lkD_ok (by simpa using hl) e3 e
def bGiv (a dd : Addr) (f : Str) (fa : Ex) : Ex := fun ρ => match fa ρ with
  | some (.d (.exn a' dd' ns xs), ρ1) => if a' = a ∧ dd' = dd then (lkD ns xs f).map fun x => (.d x, ρ1) else none
  | _ => none
theorem ev_given {X : Cx} {a C dd : Addr} {oe : Obj} {pn : List (Addr × Obj)} {e : Expr} {fa : Ex} {pos : Pos} {n : Str} (T : XfC X.K C) (hno : PySem.W.findIn X.K (.ref C) n = some none) (hz : Zc (.ref C) (some dd) oe) (hf : ∃ vs, oe.data = .fields vs)
    (he : PEv (X.suite a ((a, oe) :: pn)) e fa) (hb : attributeBase e n X.env (eval e X.env) = eval e X.env := by rfl) : PEv (X.suite a ((a, oe) :: pn)) (.Attribute e n pos) (bGiv a dd n fa) :=
  PE.imp (pe_xf T hno hz hf he hb) fun σ H Q q => by
    obtain ⟨F, G, ρ, r, ρ', R, q, k⟩ := q
    unfold bGiv at q
    split at q
    rotate_left
    · cases q
    rename_i a' dd' ns xs ρ1 e1
    split at q
    rotate_left
    · cases q
    rename_i h
    obtain ⟨rfl, rfl⟩ := h
    obtain ⟨x, ex, q⟩ := Option.map_eq_some_iff.mp q
    cases q
    refine ⟨F, G, ρ, _, _, R, e1, fun v G1 H1 s1 R1 q1 => ?_⟩
    obtain ⟨hv, us, h1, h2, h3⟩ := q1
    obtain ⟨u, l1, l2⟩ := lkD_ok h2 h3 ex
    exact ⟨hv, rfl, _, _, u, rfl, R1.gh _ _ h1, l1, k u G1 H1 s1 R1 l2⟩
end M
namespace M
open PySem PySem.Spec PyProof.Rows L2 TL
abbrev Hn := Str × Option Nat × (Addr → Addr → Sx)
def dropS (oi : Option Nat) (fl : Fl) (ρ : Sl) : Sl := match oi, fl with
  | _, .rt _ => ρ
  | none, _ => ρ
  | some i, _ => ρ.set i none
def erIs (c x : Str) : Bool := x == c || x == "StringError" || x == "ValueError" || x == "Exception"
def nHd (er : Er) (ρ : Sl) (κ : Ck) (Q : Fl → Sl → Ck → Prop) (E : Er → Sl → Ck → Prop) : List Hn → Prop
  | [] => E er ρ κ
  | (x, oi, s) :: r => if erIs er.c x = true then (match oi with
      | none => ∀ a dd, okQ (s a dd ρ) fun fl ρ' => Q fl (dropS oi fl ρ') κ
      | some i => er.ns ≠ [] ∧ ∀ a dd, okQ (s a dd (ρ.set i (some (.d (.exn a dd er.ns er.xs))))) fun fl ρ' => Q fl (dropS oi fl ρ') κ)
    else nHd er ρ κ Q E r
def nTry (l : List Str) (f : NS) (hs : List Hn) : NS := fun ρ κ Q E => f ρ κ Q fun er ρ1 κ1 => er.c ∈ l ∧ nHd er ρ1 κ1 Q E hs
theorem nHd_mono {er : Er} {ρ : Sl} {κ : Ck} {Q Q' : Fl → Sl → Ck → Prop} {E E' : Er → Sl → Ck → Prop} (hq : ∀ r ρ' κ', Q r ρ' κ' → Q' r ρ' κ') (he : ∀ e ρ' κ', E e ρ' κ' → E' e ρ' κ') : ∀ {hs : List Hn}, nHd er ρ κ Q E hs → nHd er ρ κ Q' E' hs
  | [], h => he _ _ _ h
  | (x, oi, s) :: r, h => by
    unfold nHd at h ⊢
    split at h
    · rename_i z
      rw [if_pos z]
      cases oi with
      | none => exact fun a dd => okQ.imp (h a dd) fun r ρ' q => hq _ _ _ q
      | some i => exact ⟨h.1, fun a dd => okQ.imp (h.2 a dd) fun r ρ' q => hq _ _ _ q⟩
    · rename_i z
      rw [if_neg z]
      exact nHd_mono hq he h
theorem mono_try {l : List Str} {f : NS} {hs : List Hn} (mf : Mono f) : Mono (nTry l f hs) := fun ρ κ Q Q' E E' hq he h => mf _ _ _ _ _ _ hq (fun e ρ' κ' z => ⟨z.1, nHd_mono hq he z.2⟩) h
structure ErTab (K : PySem.W.Frag) (mg : Str → Option Value) (ns : List Str) (l : List Str) : Prop where
  cls : ∀ c ∈ l, ∃ C, mg c = some (.ref C) ∧ XfC K C ∧ ∀ n ∈ ns, PySem.W.findIn K (.ref C) n = some none
  is : ∀ c ∈ l, ∀ x ∈ l, ∀ C D, mg c = some (.ref C) → mg x = some (.ref D) → PySem.W.exmOne K (.ref C) (.ref D) = some (erIs c x)
inductive HdsN (X : Cx) (ns l : List Str) : List ExceptHandler → List Hn → Prop
  | nil : HdsN X ns l [] []
  | plain {x : Str} {s : Addr → Addr → Sx} {b₀ : Stmt} {rest : List Stmt} {p1 p2 : Pos} {hds : List ExceptHandler} {hs : List Hn} (hx : x ∈ l) (hg : Gl X x) (hdb : (x == ("__debug__" : Str)) = false)
      (hsu : ∀ (a dd : Addr) (pn : List (Addr × Obj)) (oe : Obj), PBv (X.suite a ((a, oe) :: pn)) (b₀ :: rest) (s a dd)) (r : HdsN X ns l hds hs) :
      HdsN X ns l (.ExceptHandler (some (.Name x p1)) none (b₀ :: rest) p2 :: hds) ((x, none, s) :: hs)
  | named {x n : Str} {s : Addr → Addr → Sx} {i : Nat} {b₀ : Stmt} {rest : List Stmt} {p1 p2 : Pos} {hds : List ExceptHandler} {hs : List Hn} (hx : x ∈ l) (hg : Gl X x) (hdb : (x == ("__debug__" : Str)) = false) (hi : X.N[i]? = some n) (hln : X.env.kindOf n = some .local)
      (hsu : ∀ (a dd C : Addr) (pn : List (Addr × Obj)) (oe : Obj), XfC X.K C → (∀ n ∈ ns, PySem.W.findIn X.K (.ref C) n = some none) → Zc (.ref C) (some dd) oe → (∃ vs, oe.data = .fields vs) → PBv (X.suite a ((a, oe) :: pn)) (b₀ :: rest) (s a dd)) (r : HdsN X ns l hds hs) :
      HdsN X ns l (.ExceptHandler (some (.Name x p1)) (some n) (b₀ :: rest) p2 :: hds) ((x, some i, s) :: hs)
section
variable {X : Cx} {W : WX} {body : List Stmt} {h₀ : ExceptHandler} {hds : List ExceptHandler} {hs : List Hn} {pos : Pos} {f : NS} {ns l : List Str}
theorem HdsN.mix (T : ErTab X.K X.mg ns l) {hds : List ExceptHandler} {hs : List Hn} (h : HdsN X ns l hds hs) : ∃ l2 : List Hd1, HdsMix X hds l2 ∧
    ∀ (F : Fm) (G : Hp) (D : Ends) (er : Er) (ρ1 : Sl) (κ1 : Ck), er.c ∈ l →
      nHd er ρ1 κ1 (fun fl ρ' κ' => ∀ σ' G' H' hk', Same G G' → RepN X.K F G' H' σ' ρ' κ' hk' → FQ X.K (ln F hk') D fl G' H' σ' ρ') (erS X.K X.mg W F G) hs → erS X.K X.mg (wMix X.K W D l2) F G er ρ1 κ1 := by
  induction h with
  | nil => exact ⟨[], .nil, fun F G D er ρ1 κ1 hc q => q⟩
  | @plain x s b₀ rest p1 p2 hds hs hx hg hdb hsu r ih =>
    obtain ⟨l2, h2, h3⟩ := ih
    obtain ⟨Dx, hD, _⟩ := T.cls x hx
    refine ⟨(.ref Dx, none, fun a cls d => fun D σ H => ∃ dd, tS X.K (s a dd) D σ H) :: l2, .plain ⟨hg, hdb, .inl hD⟩ (fun a oe cls d pn _ _ => ⟨fun pins s' σ H D I ⟨dd, q⟩ => (hsu a dd pn oe).run pins s' σ H D I q⟩) h2, fun F G D er ρ1 κ1 hc q => ?_⟩
    intro σ' G' H' hk' cls d s' R' hv
    obtain ⟨⟨C, hC, rfl⟩, hd⟩ := hv
    refine ⟨_, T.is _ hc _ hx _ _ hC hD, fun hb a na => ?_, fun hb => ?_⟩
    · unfold nHd at q
      rw [if_pos hb] at q
      obtain ⟨fl, ρ', e1, k⟩ := okQ.ex (q a a)
      refine ⟨a, ln F hk', G', ρ1, fl, ρ', R'.rp, e1, fun σ2 G2 H2 s2 R2 => ?_⟩
      have k := k σ2 G2 H2 hk' (s'.trans s2) (by
        have : dropS none fl ρ' = ρ' := by cases fl <;> rfl
        rw [this]
        exact ⟨R'.cl.mono s2, R'.ds, R2⟩)
      have : dropS none fl ρ' = ρ' := by cases fl <;> rfl
      rw [this] at k
      exact k
    · unfold nHd at q
      rw [if_neg (by rw [hb]; exact Bool.false_ne_true)] at q
      exact h3 F G D er ρ1 κ1 hc q σ' G' H' hk' _ d s' R' ⟨⟨C, hC, rfl⟩, hd⟩
  | @named x n s i b₀ rest p1 p2 hds hs hx hg hdb hi hln hsu r ih =>
    obtain ⟨l2, h2, h3⟩ := ih
    obtain ⟨Dx, hD, _⟩ := T.cls x hx
    refine ⟨(.ref Dx, some i, fun a cls d => fun D σ H => ∃ C dd, cls = .ref C ∧ d = some dd ∧ XfC X.K C ∧ (∀ n ∈ ns, PySem.W.findIn X.K (.ref C) n = some none) ∧ tS X.K (s a dd) D σ H) :: l2, .named ⟨hg, hdb, .inl hD⟩ hi hln (fun a oe cls d pn hz hf => ⟨fun pins s' σ H D I q => ?_⟩) h2, fun F G D er ρ1 κ1 hc q => ?_⟩
    · obtain ⟨C, dd, rfl, rfl, x1, x2, q⟩ := q
      exact (hsu a dd C pn oe x1 x2 hz hf).run pins s' σ H D I q
    intro σ' G' H' hk' cls d s' R' hv
    obtain ⟨⟨C, hC, rfl⟩, hd⟩ := hv
    refine ⟨_, T.is _ hc _ hx _ _ hC hD, fun hb a na => ?_, fun hb => ?_⟩
    · unfold nHd at q
      rw [if_pos hb] at q
      obtain ⟨qn, q⟩ := q
      rcases hd with hd | ⟨dd, us, rfl, hd1, hd2, hd3⟩
      · exact absurd hd qn
      obtain ⟨C', hC', x1, x2⟩ := T.cls _ hc
      rw [hC] at hC'
      cases hC'
      obtain ⟨fl, ρ', e1, k⟩ := okQ.ex (q a dd)
      have R1 : Rep X.K (ln F hk') G' H' (σ'.set i (some (.ref a))) (ρ1.set i (some (.d (.exn a dd er.ns er.xs)))) := R'.rp.setD ⟨rfl, us, hd1, hd2, hd3⟩
      refine ⟨C, dd, rfl, rfl, x1, x2, ln F hk', G', _, fl, ρ', R1, e1, fun σ2 G2 H2 s2 R2 => ?_⟩
      cases fl with
      | rt r => exact k σ2 G2 H2 hk' (s'.trans s2) ⟨R'.cl.mono s2, R'.ds, R2⟩
      | nx => exact k (σ2.set i none) G2 H2 hk' (s'.trans s2) ⟨R'.cl.mono s2, R'.ds, R2.clear⟩
      | bk => exact k (σ2.set i none) G2 H2 hk' (s'.trans s2) ⟨R'.cl.mono s2, R'.ds, R2.clear⟩
      | ct => exact k (σ2.set i none) G2 H2 hk' (s'.trans s2) ⟨R'.cl.mono s2, R'.ds, R2.clear⟩
    · unfold nHd at q
      rw [if_neg (by rw [hb]; exact Bool.false_ne_true)] at q
      exact h3 F G D er ρ1 κ1 hc q σ' G' H' hk' _ d s' R' ⟨⟨C, hC, rfl⟩, hd⟩
theorem sn_try (T : ErTab X.K X.mg ns l) (hN : X.N.Nodup) (hs0 : X.stack = X.env :: X.outer) (hf0 : X.env.frame = some X.env.locals) (tk : Takes X W) (mf : Mono f)
    (hb : ∀ (W' : WX) (pn : List (Addr × Obj)) (xe : Value → Shared → Prop), Takes (X.tr pn xe) W' → PBn (X.tr pn xe) W' body f) (hh : HdsN X ns l (h₀ :: hds) hs) : PSn X W (.Try body (h₀ :: hds) [] [] pos) (nTry l f hs) := by
  obtain ⟨l2, h2, h3⟩ := hh.mix (W := W) T
  refine PS.imp (ps_try_mix (tb := fun W' => nS X.K X.mg W' f) hs0 hf0 hN tk (fun W' pn xe tk' _ => hb W' pn xe tk') h2) fun D σ H q => ?_
  obtain ⟨F, G, ρ, κ, hk, R, q⟩ := q
  exact ⟨F, G, ρ, κ, hk, R, mf _ _ _ _ _ _ (fun _ _ _ z => z) (fun er ρ1 κ1 z => h3 F G D er ρ1 κ1 z.1 z.2) q⟩
end
end M
namespace M
open PySem PySem.Spec PyProof.Rows L2 TL
abbrev Sel := List (Nat ⊕ Nat)
def pick {α : Type} : Sel → List α → List α → List α
  | [], _, _ => []
  | .inl i :: s, l, d => (l[i]?).toList ++ pick s l d
  | .inr j :: s, l, d => (d[j]?).toList ++ pick s l d
theorem pick_vals {vs dvs : List V} {us its : List Value} (r : Vals vs us) (rd : Vals dvs its) : ∀ sel : Sel, Vals (pick sel vs dvs) (pick sel us its)
  | [] => .nil
  | .inl i :: s => by
    unfold pick
    cases e : vs[i]? with
    | none =>
      have : us[i]? = none := by
        rw [List.getElem?_eq_none_iff] at e ⊢
        rw [← r.length]; exact e
      rw [this]
      exact pick_vals r rd s
    | some x =>
      obtain ⟨u, h1, h2⟩ := r.get e
      rw [h1]
      exact .cons h2 (pick_vals r rd s)
  | .inr i :: s => by
    unfold pick
    cases e : dvs[i]? with
    | none =>
      have : its[i]? = none := by
        rw [List.getElem?_eq_none_iff] at e ⊢
        rw [← rd.length]; exact e
      rw [this]
      exact pick_vals r rd s
    | some x =>
      obtain ⟨u, h1, h2⟩ := rd.get e
      rw [h1]
      exact .cons h2 (pick_vals r rd s)
def isLit : D → Bool
  | .non => true
  | .bl _ => true
  | .int _ => true
  | .str _ => true
  | _ => false
def litV : D → V
  | .bl b => .bl b
  | .int i => .int i
  | .str s => .str ⟨s.toArray⟩
  | _ => .non
theorem lit_rd {K : PySem.W.Frag} {G : Hp} {d : D} (h : isLit d = true) : RD K G d (litV d) := by
  cases d <;> first | rfl | cases h
structure DefG (P : Program) (w : World) (K : PySem.W.Frag) (mg : Str → Option Value) (base : Heap) (CX : CXT) (x : Str) (st : Stmt) (k : Nat) (ps : List Str) (dds : List D) (sp : Sp) : Prop where
  ex : ∃ (f : Addr) (fd : FuncData), mg x = some (.ref f) ∧ FunD K x x (defArgs st) (defBody st) (defScope st) (dds.map litV) [] f fd ∧ FnOk P w K mg base CX k f fd ps sp
section
variable {P : Program} {w : World} {K : PySem.W.Frag} {mg : Str → Option Value} {base : Heap} {CX : CXT} {x : Str} {st : Stmt} {k n : Nat} {ps ks : List Str} {dds : List D} {sp : Sp} {sel : Sel} {f : Addr} {fd : FuncData}
theorem fun_fund (F : Fun K x x st f fd) : FunD K x x (defArgs st) (defBody st) (defScope st) [] [] f fd := by
  obtain ⟨oc, od, kV, doc, pm, an, cdv, ct, osl, rfl, lk, hcd⟩ := F.ex
  exact ⟨⟨oc, od, .none, kV, doc, pm, an, cdv, ct, osl, rfl, lk, hcd, .inl ⟨rfl, rfl⟩, .inl rfl⟩, F.kp⟩
theorem defG_of (T : DF K mg x st) (h : ∀ (f : Addr) (fd : FuncData), Fun K x x st f fd → FnOk P w K mg base CX k f fd ps sp) : DefG P w K mg base CX x st k ps [] sp := by
  obtain ⟨f, fd, hm, F⟩ := T.ex
  exact ⟨f, fd, hm, fun_fund F, h f fd F⟩
theorem defG_ofD (T : DFD K mg x st (dds.map litV)) (h : ∀ (f : Addr) (fd : FuncData), FunD K x x (defArgs st) (defBody st) (defScope st) (dds.map litV) [] f fd → FnOk P w K mg base CX k f fd ps sp) : DefG P w K mg base CX x st k ps dds sp := by
  obtain ⟨f, fd, hm, F⟩ := T.ex
  exact ⟨f, fd, hm, F, h f fd F⟩
def BindG (x : Str) (st : Stmt) (ps : List Str) (n : Nat) (ks : List Str) (sel : Sel) (nd : Nat) : Prop :=
  (nd = 0 ∧ ∀ (kV doc pm : Value) (an : Option Addr) (cdv ct : Value) (us ws : List Value), us.length = n → ws.length = ks.length →
    bindArgs (PySem.W.fnOf x x (defArgs st) (defBody st) (defScope st) .none kV doc pm an cdv ct) ⟨us, ks.zip ws⟩ = pure (ps.zip (pick sel (us ++ ws) []))) ∨
  (nd ≠ 0 ∧ ∀ (T : Addr) (kV doc pm : Value) (an : Option Addr) (cdv ct : Value) (us ws its : List Value), us.length = n → ws.length = ks.length → its.length = nd →
    ∃ k, bindArgs (PySem.W.fnOf x x (defArgs st) (defBody st) (defScope st) (.ref T) kV doc pm an cdv ct) ⟨us, ks.zip ws⟩ = seqItems? (.ref T) >>= k ∧ k (some its.toArray) = pure (ps.zip (pick sel (us ++ ws) its)))
theorem kbn_of (F : FunD K x x (defArgs st) (defBody st) (defScope st) (dds.map litV) [] f fd) (B : BindG x st ps n ks sel dds.length) :
    ∃ its : List Value, KBn K fd ps n ks (fun us ws => pick sel (us ++ ws) its) (fun vs zs => pick sel (vs ++ zs) (dds.map litV)) := by
  obtain ⟨oc, od, dV, kV, doc, pm, an, cdv, ct, osl, rfl, lk, hcd, hD, hK⟩ := F.ex
  rcases hD with ⟨h1, rfl⟩ | ⟨h1, T, o, its, m, rfl, lT, oT, rT⟩
  · have h0 : dds = [] := by simpa using h1
    subst h0
    rcases B with ⟨_, B⟩ | B
    · exact ⟨[], ⟨fun s us ws _ l1 l2 => .of_eq (B kV doc pm an cdv ct us ws l1 l2), fun r1 r2 => pick_vals (r1.append r2) .nil sel⟩⟩
    · exact absurd rfl B.1
  · rcases B with ⟨h0, B⟩ | B
    · exact absurd (by simpa using h0) h1
    · refine ⟨its, ⟨fun s us ws X l1 l2 => ?_, fun r1 r2 => pick_vals (r1.append r2) rT sel⟩⟩
      obtain ⟨k, e1, e2⟩ := B.2 T kV doc pm an cdv ct us ws its l1 l2 (by simpa using rT.length.symm)
      refine BindsTo.of_looks fun M => ?_
      rw [e1]
      exact looks_items X lT oT (.of_pure e2)
end
end M
namespace M
open PySem PySem.Spec PyProof.Rows L2 TL
def tCallG (n m : Nat) (sp : Sp) (gV : List V → List V → List V) (E : L2.St → XK) (t tk : TA) : TE := fun σ H Q => t σ H fun vs H1 => tk σ H1 fun zs H2 => vs.length = n ∧ zs.length = m ∧ sp (gV vs zs) H2 Q (E σ)
section
variable {X : Cx} {CX : CXT} {k n : Nat} {f : Addr} {fd : FuncData} {ps ks : List Str} {sp : Sp} {E : L2.St → XK} {x : Str} {p pos : Pos} {e : Expr} {es : List Expr} {kws : List Keyword} {t tk : TA} {g : List Value → List Value → List Value} {gV : List V → List V → List V}
theorem run_fnNS {pins : List (Addr × Obj)} {σ : L2.St} {H : Hp} {s : Shared} {Q : VK} {us ws : List Value} {vs zs : List V} (F : FnOk X.prog X.w X.K X.mg X.base CX k f fd ps sp) (hr : Room k X.A) (hb : KBn X.K fd ps n ks g gV) (hx : PassesAt CX X σ (E σ))
    (I : Inv X pins σ H s) (r : Vals vs us) (rz : Vals zs ws) (l1 : vs.length = n) (l2 : zs.length = ks.length) (h : sp (gV vs zs) H Q (E σ)) : wpAny (model X.prog X.w) X.A (call (.ref f) us (ks.zip ws)) (EP X pins σ Q) X.xe s := by
  have r2 := hb.rel r rz
  refine wpAny_call (codeAny_mono (F.run X.A X.stack s H ⟨us, ks.zip ws⟩ (g us ws) (gV vs zs) Q (E σ) hr I.env0 (hb.to s us ws I.kIn (r.length.symm.trans l1) (rz.length.symm.trans l2)) r2 h) fun r s' hq => ?_)
  cases r with
  | error e => exact hx pins H s e s' I hq
  | ok fl =>
    cases fl with
    | ret u => exact I.after hq
    | next => exact False.elim hq
    | brk => exact False.elim hq
    | cont => exact False.elim hq
theorem pe_callG (F : FnOk X.prog X.w X.K X.mg X.base CX k f fd ps sp) (hr : Room k X.A) (hg : Gl X x) (hm : X.mg x = some (.ref f)) (hk : PySem.W.keepIn X.K (.ref f) = true) (hb : KBn X.K fd ps n ks g gV) (hx : ∀ σ, PassesAt CX X σ (E σ))
    (ha : PA X (e :: es) t) (hkw : PK X kws tk) (hall : (backToKw pos (keywordEach kws X.env)).all (·.1.isSome) = true := by rfl) (hks : (backToKw pos (keywordEach kws X.env)).filterMap (·.1) = ks := by rfl)
    (hdb : (x == ("__debug__" : Str)) = false := by decide) (he : starEach (e :: es) X.env = (false, eval e X.env) :: starEach es X.env := by rfl)
    (hpl : ((backTo pos (starEach (e :: es) X.env)).any (·.1) || (backToKw pos (keywordEach kws X.env)).any (·.1.isNone)) = false := by rfl) :
    PE X (.Call (.Name x p) (e :: es) kws pos) (tCallG n ks.length sp gV E t tk) := by
  refine ⟨fun pins s σ H Q I h => ?_⟩
  refine wpAny_Call_Name_kw (ld_glob I hg hm ?_ hdb)
  refine PySem.W.callWith_KW (h₀ := X.base) I.ok.mod.kin hk hall (thn (ha.run pos pins s σ H _ I h) fun us s1 ⟨vs, H1, I1, r, q⟩ => ?_) hpl he
  refine thn (hkw.run pos pins s1 σ H1 _ I1 q) fun ws s2 ⟨zs, H2, I2, rz, l1, l2, q2⟩ => ⟨I2.kIn, ?_⟩
  rw [hks]
  exact run_fnNS F hr hb (hx σ) I2 r rz l1 l2 q2
theorem pe_callG0 (F : FnOk X.prog X.w X.K X.mg X.base CX k f fd ps sp) (hr : Room k X.A) (hg : Gl X x) (hm : X.mg x = some (.ref f)) (hk : PySem.W.keepIn X.K (.ref f) = true) (hb : KBn X.K fd ps 0 ks g gV) (hx : ∀ σ, PassesAt CX X σ (E σ))
    (hkw : PK X kws tk) (hall : (backToKw pos (keywordEach kws X.env)).all (·.1.isSome) = true := by rfl) (hks : (backToKw pos (keywordEach kws X.env)).filterMap (·.1) = ks := by rfl)
    (hdb : (x == ("__debug__" : Str)) = false := by decide)
    (hpl : ((backTo pos (starEach [] X.env)).any (·.1) || (backToKw pos (keywordEach kws X.env)).any (·.1.isNone)) = false := by rfl) :
    PE X (.Call (.Name x p) [] kws pos) (tCallG 0 ks.length sp gV E tNil tk) := by
  refine ⟨fun pins s σ H Q I h => ?_⟩
  refine wpAny_Call_Name_kw (ld_glob I hg hm ?_ hdb)
  refine PySem.W.callWith_KW0 (h₀ := X.base) I.ok.mod.kin hk hall (thn (hkw.run pos pins s σ H _ I h) fun ws s2 ⟨zs, H2, I2, rz, l1, l2, q2⟩ => ⟨I2.kIn, ?_⟩) hpl
  rw [hks]
  exact run_fnNS (vs := []) (us := []) F hr hb (hx σ) I2 .nil rz rfl l2 q2
end
def pickR (sel : Sel) (rs : List RV) (dds : List D) : List RV := pick sel rs (dds.map RV.d)
theorem rns_get_none {K : PySem.W.Frag} {G : Hp} {σ : Sg} {rs : List RV} {vs : List V} (h : RNs K G σ rs vs) {i : Nat} (e : rs[i]? = none) : vs[i]? = none := by
  obtain ⟨l, _⟩ := h.get
  rw [List.getElem?_eq_none_iff] at e ⊢
  omega
theorem rns_pick {K : PySem.W.Frag} {G : Hp} {σ : Sg} {rs : List RV} {vs : List V} {dds : List D} (hl : ∀ d ∈ dds, isLit d = true) (h : RNs K G σ rs vs) : ∀ sel : Sel, RNs K G σ (pickR sel rs dds) (pick sel vs (dds.map litV))
  | [] => rfl
  | .inl i :: s => by
    unfold pickR pick
    cases e : rs[i]? with
    | none =>
      rw [rns_get_none h e]
      exact rns_pick hl h s
    | some r =>
      obtain ⟨v, h1, h2⟩ := h.get.2 i r e
      rw [h1]
      exact ⟨v, _, rfl, h2, rns_pick hl h s⟩
  | .inr i :: s => by
    unfold pickR pick
    cases e : dds[i]? with
    | none =>
      have e1 : (dds.map RV.d)[i]? = none := by simpa using e
      have e2 : (dds.map litV)[i]? = none := by simpa using e
      rw [e1, e2]
      exact rns_pick hl h s
    | some d =>
      have e1 : (dds.map RV.d)[i]? = some (.d d) := by simp [e]
      have e2 : (dds.map litV)[i]? = some (litV d) := by simp [e]
      rw [e1, e2]
      exact ⟨_, _, rfl, lit_rd (hl d (List.mem_of_getElem? e)), rns_pick hl h s⟩
theorem RNs.app2 {K : PySem.W.Frag} {G : Hp} {σ : Sg} : ∀ {rs qs : List RV} {vs us : List V}, RNs K G σ rs vs → RNs K G σ qs us → RNs K G σ (rs ++ qs) (vs ++ us)
  | [], qs, vs, us, h, k => by cases h; exact k
  | r :: rs, qs, vs, us, ⟨x, xs, e1, e2, e3⟩, k => by subst e1; exact ⟨x, xs ++ us, rfl, e2, RNs.app2 e3 k⟩
theorem RNs.len {K : PySem.W.Frag} {G : Hp} {σ : Sg} {rs : List RV} {vs : List V} (h : RNs K G σ rs vs) : vs.length = rs.length := h.get.1
def nApp (n m : Nat) (f g : NA) : NA := nBind f fun rs => nBind g fun qs ρ κ Q _ => rs.length = n ∧ qs.length = m ∧ Q (rs ++ qs) ρ κ
def nPick (sel : Sel) (dds : List D) (f : NA) : NA := nBind f fun rs ρ κ Q _ => Q (pickR sel rs dds) ρ κ
theorem mono_app {n m : Nat} {f g : NA} (mf : Mono f) (mg : Mono g) : Mono (nApp n m f g) := mono_bind mf fun r => mono_bind mg fun rs ρ κ Q Q' E E' hq _ h => ⟨h.1, h.2.1, hq _ _ _ h.2.2⟩
theorem mono_pick {sel : Sel} {dds : List D} {f : NA} (mf : Mono f) : Mono (nPick sel dds f) := mono_bind mf fun r ρ κ Q Q' E E' hq _ h => hq _ _ _ h
def PKn (X : Cx) (W : WX) (kws : List Keyword) (f : NA) : Prop := PK X kws (nA X.K X.mg W f)
section
variable {X : Cx} {W : WX} {a e : Expr} {es : List Expr} {kws : List Keyword} {f g : NA} {fa : NE} {nm : Option Str} {kpos p pos : Pos} {x : Str}
theorem an_nil : PAn X W [] (up aNil) := an_up av_nil
theorem kn_nil : PKn X W [] (up aNil) := PK.imp kv_nil fun σ H Q q => by
  obtain ⟨F, G, ρ, κ, hk, R, q⟩ := q
  obtain ⟨r, ρ', e1, k⟩ := okQ.ex q
  exact ⟨ln F hk, G, ρ, r, ρ', R.rp, e1, fun v G' H' s R' r' => k v G' H' hk s ⟨R.cl.mono s, R.ds, R'⟩ r'⟩
theorem kn_cons {fs : NA} (mf : Mono fa) (mg : Mono fs) (he : PEn X W a fa) (hs : PKn X W kws fs) : PKn X W (⟨nm, a, kpos⟩ :: kws) (nCons fa fs) := PK.imp (pk_cons he hs) fun σ H Q q => by
  obtain ⟨F, G, ρ, κ, hk, R, q⟩ := q
  refine ⟨F, G, ρ, κ, hk, R, mf _ _ _ _ _ _ (fun r ρ1 κ1 q => ?_) (fun e ρ' κ' z => z) q⟩
  intro x G1 H1 hk1 s1 R1 q1
  obtain ⟨G2, t2, R2, n2⟩ := nrm_step R1.rp q1
  refine ⟨F, G2, ρ1, κ1, hk1, ⟨R1.cl.mono t2, R1.ds, R2⟩, mg _ _ _ _ _ _ (fun rs ρ2 κ2 q => ?_) (fun e ρ' κ' z => erK.mono (s1.trans t2) z) q⟩
  intro ys G3 H3 hk3 s3 R3 q3
  exact q _ G3 H3 hk3 ((s1.trans t2).trans s3) R3 ⟨x, ys, rfl, n2.mono s3, q3⟩
theorem read_pick {K : PySem.W.Frag} {mg : Str → Option Value} {sel : Sel} {dds : List D} {n m : Nat} (hl : ∀ d ∈ dds, isLit d = true) (mf : Mono f) (mgg : Mono g) {σ : Sg} {H : Hp} {Q : List V → Hp → Prop} (h : nA K mg W (nPick sel dds (nApp n m f g)) σ H Q) :
    nA K mg W f σ H fun vs H1 => nA K mg W g σ H1 fun zs H2 => vs.length = n ∧ zs.length = m ∧ Q (pick sel (vs ++ zs) (dds.map litV)) H2 := by
  obtain ⟨F, G, ρ, κ, hk, R, q⟩ := h
  refine ⟨F, G, ρ, κ, hk, R, mf _ _ _ _ _ _ (fun rs ρ1 κ1 q => ?_) (fun e ρ' κ' z => z) q⟩
  intro vs G1 H1 hk1 s1 R1 q1
  refine ⟨F, G1, ρ1, κ1, hk1, R1, mgg _ _ _ _ _ _ (fun qs ρ2 κ2 q => ?_) (fun e ρ' κ' z => erK.mono s1 z) q⟩
  intro zs G2 H2 hk2 s2 R2 q2
  obtain ⟨l1, l2, q⟩ := q
  exact ⟨by rw [q1.len, l1], by rw [q2.len, l2], q _ G2 H2 hk2 (s1.trans s2) R2 (rns_pick hl (RNs.app2 (q1.mono s2) q2) sel)⟩
theorem en_callG {k n : Nat} {st : Stmt} {ps ks : List Str} {dds : List D} {sel : Sel} {F : Fn} (T : DefG X.prog X.w X.K X.mg X.base (L2.CX X.prog X.w) x st k ps dds (spN X.K X.mg F)) (B : BindG x st ps n ks sel dds.length) (hl : ∀ d ∈ dds, isLit d = true) (mf : MonoF F) (m1 : Mono f) (m2 : Mono g) (tk : Takes X W) (hr : Room k X.A)
    (ha : PAn X W (e :: es) f) (hkw : PKn X W kws g) (hg : Gl X x := by rfl) (hall : (backToKw pos (keywordEach kws X.env)).all (·.1.isSome) = true := by rfl) (hks : (backToKw pos (keywordEach kws X.env)).filterMap (·.1) = ks := by rfl)
    (hdb : (x == ("__debug__" : Str)) = false := by decide) (he : starEach (e :: es) X.env = (false, eval e X.env) :: starEach es X.env := by rfl)
    (hpl : ((backTo pos (starEach (e :: es) X.env)).any (·.1) || (backToKw pos (keywordEach kws X.env)).any (·.1.isNone)) = false := by rfl) : PEn X W (.Call (.Name x p) (e :: es) kws pos) (nCall F (nPick sel dds (nApp n ks.length f g))) := by
  obtain ⟨fa, fd, hm, FD, G⟩ := T.ex
  obtain ⟨its, hb⟩ := kbn_of FD B
  exact PE.imp (pe_callG (E := fun σ => WE W σ) G hr hg hm FD.kp hb (fun σ => passAt tk σ) ha hkw hall hks hdb he hpl) fun σ H Q q => read_pick hl m1 m2 (read_callN mf (mono_pick (mono_app m1 m2)) q)
theorem en_callG0 {k : Nat} {st : Stmt} {ps ks : List Str} {dds : List D} {sel : Sel} {F : Fn} (T : DefG X.prog X.w X.K X.mg X.base (L2.CX X.prog X.w) x st k ps dds (spN X.K X.mg F)) (B : BindG x st ps 0 ks sel dds.length) (hl : ∀ d ∈ dds, isLit d = true) (mf : MonoF F) (m2 : Mono g) (tk : Takes X W) (hr : Room k X.A)
    (hkw : PKn X W kws g) (hg : Gl X x := by rfl) (hall : (backToKw pos (keywordEach kws X.env)).all (·.1.isSome) = true := by rfl) (hks : (backToKw pos (keywordEach kws X.env)).filterMap (·.1) = ks := by rfl)
    (hdb : (x == ("__debug__" : Str)) = false := by decide)
    (hpl : ((backTo pos (starEach [] X.env)).any (·.1) || (backToKw pos (keywordEach kws X.env)).any (·.1.isNone)) = false := by rfl) : PEn X W (.Call (.Name x p) [] kws pos) (nCall F (nPick sel dds (nApp 0 ks.length (up aNil) g))) := by
  obtain ⟨fa, fd, hm, FD, G⟩ := T.ex
  obtain ⟨its, hb⟩ := kbn_of FD B
  exact PE.imp (pe_callG0 (E := fun σ => WE W σ) G hr hg hm FD.kp hb (fun σ => passAt tk σ) hkw hall hks hdb hpl) fun σ H Q q => by
    have q1 := read_pick hl mono_up m2 (read_callN mf (mono_pick (mono_app mono_up m2)) q)
    obtain ⟨F0, G0, ρ, κ, hk, R, q2⟩ := q1
    obtain ⟨r, ρ', e1, k⟩ := okQ.ex q2
    cases e1
    exact k [] G0 H hk (Same.refl _) R rfl
end
end M
namespace M
open PySem PySem.Spec PyProof.Rows L2 TL
def wNone : WX := fun _ _ _ _ => False
section
variable {P : Program} {w : World} {K : PySem.W.Frag} {mg : Str → Option Value} {base : Heap}
theorem fn_okND {x qual : Str} {params : Arguments} {bd : List Stmt} {scope : Scope} {dvs : List V} {kws : List (Str × V)} {f : Addr} {fd : FuncData} {N ps : List Str} {k : Nat} {body : NS} (F : FunD K x qual params bd scope dvs kws f fd) (S : FnScope N ps scope) (mb : Mono body)
    (hb : ∀ (cdv : Value) (A : Around) (outer : List Env) (s : Shared) (H : Hp) (E : XK), Room k (A.deeper (envOfC qual scope s.heap.objs.size f cdv)) →
      Takes (cxOf (L2.CX P w) P w K mg base N qual scope f cdv A outer s H E) (fun cls d _ H' => E cls d H') →
      PBn (cxOf (L2.CX P w) P w K mg base N qual scope f cdv A outer s H E) (fun cls d _ H' => E cls d H') bd body) : FnOk P w K mg base (L2.CX P w) (k + 1) f fd ps (spN K mg (runN N.length ps.length body)) := by
  refine F.ok S (fun vs H Q E h => ?_) (fun cdv A outer s H vs Q E hr h => ⟨_, hb cdv A outer s H E hr ?_, fn_bodyN mb h⟩)
  · obtain ⟨F, G, args, κ, hk, R, ht, hl, q⟩ := h
    have := R.rp.len
    simp at this
    omega
  · exact takes_of rfl rfl rfl rfl
theorem cells_nil {K : PySem.W.Frag} {G hk : Hp} (h : CellsOk K G hk []) : hk = fun _ => none := by
  funext p
  cases e : hk p with
  | none => rfl
  | some o =>
    obtain ⟨c, hc⟩ := h.only p o e
    cases hc
theorem fn_okNV {x qual : Str} {st : Stmt} {f : Addr} {fd : FuncData} {N ps : List Str} {k : Nat} {body : NS} {F : Fx} (Fn : Fun K x qual st f fd) (S : FnScope N ps (defScope st)) (mb : Mono body)
    (hF : ∀ args r as, F args = some (r, as) → runN N.length ps.length body args [] (fun r' as' κ' => r' = r ∧ as' = as ∧ κ' = []) (fun _ _ _ => False))
    (hb : ∀ (cdv : Value) (A : Around) (outer : List Env) (s : Shared) (H : Hp) (E : XK), Room k (A.deeper (envOfC qual (defScope st) s.heap.objs.size f cdv)) →
      PBn (cxOf CX0 P w K mg base N qual (defScope st) f cdv A outer s H E).nox wNone (defBody st) body) : FnOk P w K mg base CX0 (k + 1) f fd ps (spV K F) := by
  have key : ∀ vs H Q E, spV K F vs H Q E → spN K mg (runN N.length ps.length body) vs H Q (fun _ _ _ => False) := fun vs H Q E h => by
    obtain ⟨Fm, G, args, r, as, R, ht, e, q⟩ := h
    refine ⟨Fm, G, args, [], fun _ => none, ⟨⟨fun p c m => (by cases m), fun p o m => (by cases m)⟩, fun p o m => (by cases m), R⟩, ht, ?_⟩
    refine mono_run mb _ _ _ _ _ _ (fun r' as' κ' z => ?_) (fun _ _ _ z => z.elim) (hF args r as e)
    obtain ⟨rfl, rfl, rfl⟩ := z
    intro v G' H' hk' s' R' rr
    obtain rfl := cells_nil R'.cl
    exact q v G' H' s' R'.rp rr
  refine Fn.ok S (fun vs H Q E h => ?_) (fun cdv A outer s H vs Q E hr h => ⟨_, hb cdv A outer s H E hr, fn_bodyN (E := fun _ _ _ => False) mb (key _ _ _ _ h)⟩)
  obtain ⟨F, G, args, κ, hk, R, ht, hl, q⟩ := key _ _ _ _ h
  have := R.rp.len
  simp at this
  omega
end
end M
namespace M
open PySem PySem.Spec PyProof.Rows L2 TL
structure GDat (K : PySem.W.Frag) (mg : Str → Option Value) (x : Str) (d : D) : Prop where
  ex : ∃ (v : V) (u : Value), mg x = some u ∧ RelV v u ∧ ∀ G, RD K G d v
section
variable {K : PySem.W.Frag} {h : Heap} {mg : Str → Option Value}
theorem gtup_of (X : K.In h) (G : h.Ns mainGlobals mg) {x : Str} {f : Addr} {oc : Value} {od : Option Addr} {its : Array Value} {n : Nat} {sl : Array (Option Value)} {ds : List D} (xs : List V) (a : PySem.W.nsIn K mainGlobals x = some (some (.ref f)))
    (l : K.lookup f = some ⟨oc, od, .seq its n, sl⟩) (c : oc = .type "tuple") (hs : its.size ≤ sizeLine) (hv : Vals xs its.toList) (hr : ∀ G, RDs K G ds xs) : GDat K mg x (.tup ds) :=
  ⟨.ref f, _, PySem.W.mg_of X G a, rfl, fun _ => ⟨f, xs, rfl, .inr ⟨_, its, n, l, c, rfl, hs, hv⟩, hr _⟩⟩
theorem gbool_of (X : K.In h) (G : h.Ns mainGlobals mg) {x : Str} {b : Bool} (a : PySem.W.nsIn K mainGlobals x = some (some (.bool b))) : GDat K mg x (.bl b) :=
  ⟨.bl b, _, PySem.W.mg_of X G a, rfl, fun _ => rfl⟩
end
section
variable {X : Cx} {a b c e o : Expr} {es : List Expr} {fa fb fc : Ex} {fs : Ax} {pos p p2 pos2 apos cpos : Pos} {x : Str}
theorem ev_gdat {d : D} (h : GDat X.K X.mg x d) (hg : Gl X x := by rfl) (hdb : (x == ("__debug__" : Str)) = false := by decide) : PEv X (.Name x pos) (bC d) := by
  obtain ⟨v, u, hm, r, k⟩ := h.ex
  exact ev_const (pe_glob hg hm r hdb) k
def shrC (i j : Int) : Bool := decide (0 ≤ j)
def shrD : D → D → Option RV := iiD shrC fun i j => i / 2 ^ j.toNat
theorem ev_shr (ha : PEv X a fa) (hb : PEv X b fb) : PEv X (.BinOp a .RShift b pos) (bOp shrD fa fb) := ev_op op_shr (opd_ii fun i j h => by unfold shrC at h; exact of_decide_eq_true h) ha hb
def shlD : D → D → Option RV := iiD powC fun i j => i * 2 ^ j.toNat
theorem ev_shl (ha : PEv X a fa) (hb : PEv X b fb) : PEv X (.BinOp a .LShift b pos) (bOp shlD fa fb) := ev_op op_shl (opd_ii fun i j h => by unfold powC at h; have h1 := of_decide_eq_true h; exact h1) ha hb
def andD : D → D → Option RV := iiD (fun _ _ => true) fun i j => Builtin.bitAnd i j
theorem ev_band (ha : PEv X a fa) (hb : PEv X b fb) : PEv X (.BinOp a .BitAnd b pos) (bOp andD fa fb) := ev_op op_and opd_ii0 ha hb
def startsD (s : List Nat) : List D → Option RV
  | [.str t] => some (.d (.bl (Txt.startswith ⟨s.toArray⟩ ⟨t.toArray⟩)))
  | _ => none
def endsD (s : List Nat) : List D → Option RV
  | [.str t] => some (.d (.bl (Txt.endswith ⟨s.toArray⟩ ⟨t.toArray⟩)))
  | _ => none
theorem mtd_starts {K : PySem.W.Frag} : MtD K (fun x xs H Q => ∃ a b, x = .str a ∧ xs = [.str b] ∧ Q (.bl (Txt.startswith a b)) H) startsD := by
  intro G H s xs ds z sm hx e Q k
  unfold startsD at e
  split at e
  · cases e
    obtain ⟨v, rfl, q⟩ := ros1 hx
    exact ⟨_, _, rfl, by rw [q.str], k _ _ (.same rfl)⟩
  · cases e
theorem mtd_ends {K : PySem.W.Frag} : MtD K (fun x xs H Q => ∃ a b, x = .str a ∧ xs = [.str b] ∧ Q (.bl (Txt.endswith a b)) H) endsD := by
  intro G H s xs ds z sm hx e Q k
  unfold endsD at e
  split at e
  · cases e
    obtain ⟨v, rfl, q⟩ := ros1 hx
    exact ⟨_, _, rfl, by rw [q.str], k _ _ (.same rfl)⟩
  · cases e
theorem ev_starts {fo : Ex} (ho : PEv X o fo) (ha : PAv X (e :: es) fs) (hbase : attributeBase o "startswith" X.env (eval o X.env) = eval o X.env := by rfl)
    (hfew : ((backTo cpos (starEach (e :: es) X.env)).all (fun x => !x.1) && (backToKw cpos (keywordEach [] X.env)).all (fun x => x.1.isSome)
      && decide ((e :: es).length + ([] : List Keyword).length + (if ([] : List Keyword).isEmpty then 0 else 1) < 30)) = true := by rfl)
    (hline : (apos.endLine == cpos.line) = true := by rfl) (hs : starEach (e :: es) X.env = (false, eval e X.env) :: starEach es X.env := by rfl) (hplain : (backTo cpos (starEach es X.env)).any (·.1) = false := by rfl) :
    PEv X (.Call (.Attribute o "startswith" apos) (e :: es) [] cpos) (bMt startsD fo fs) :=
  PE.imp (pe_bm PySem.F.plainAttrs_str PySem.F.slot_str_startswith PySem.F.type_str_startswith mt_startswith ho ha hbase hfew hline hs hplain) fun _ _ _ h => read_mt mtd_starts h
theorem ev_ends {fo : Ex} (ho : PEv X o fo) (ha : PAv X (e :: es) fs) (hbase : attributeBase o "endswith" X.env (eval o X.env) = eval o X.env := by rfl)
    (hfew : ((backTo cpos (starEach (e :: es) X.env)).all (fun x => !x.1) && (backToKw cpos (keywordEach [] X.env)).all (fun x => x.1.isSome)
      && decide ((e :: es).length + ([] : List Keyword).length + (if ([] : List Keyword).isEmpty then 0 else 1) < 30)) = true := by rfl)
    (hline : (apos.endLine == cpos.line) = true := by rfl) (hs : starEach (e :: es) X.env = (false, eval e X.env) :: starEach es X.env := by rfl) (hplain : (backTo cpos (starEach es X.env)).any (·.1) = false := by rfl) :
    PEv X (.Call (.Attribute o "endswith" apos) (e :: es) [] cpos) (bMt endsD fo fs) :=
  PE.imp (pe_bm PySem.F.plainAttrs_str PySem.F.slot_str_endswith PySem.F.type_str_endswith mt_endswith ho ha hbase hfew hline hs hplain) fun _ _ _ h => read_mt mtd_ends h
theorem ev_dict0 : PEv X (.Dict [] [] pos) (bC (.dct [] [])) := PE.imp pe_dnewK fun σ H Q h => by
  obtain ⟨F, G, ρ, r, ρ', R, q, k⟩ := h
  cases q
  intro p hp
  exact k (.ref p) (upd G p (.dK [])) _ (Same.updN (R.gNone hp)) (R.newG hp) ⟨p, [], rfl, upd_same, rfl, rfl⟩
end
def keyD : L2.Key → D
  | .inl i => .int i
  | .inr s => .str (tl s)
def itemsOf : List L2.Key → List D → List D
  | k :: ks, x :: xs => .tup [keyD k, x] :: itemsOf ks xs
  | _, _ => []
def bItems (f : Ex) : Ex := fun ρ => match f ρ with
  | some (.d (.dct ks xs), ρ1) => some (.own (itemsOf ks xs), ρ1)
  | _ => none
def putTs (G : Hp) (ts : List Addr) (H : Hp) : Hp := fun b => if b ∈ ts then H b else G b
theorem rd_key {K : PySem.W.Frag} {G : Hp} (k : L2.Key) : RD K G (keyD k) (kV k) := by
  cases k with
  | inl i => rfl
  | inr s =>
    show V.str s = V.str ⟨(tl s).toArray⟩
    cases s
    simp [tl]
theorem rds_items {K : PySem.W.Frag} {G G' : Hp} (s : Same G G') : ∀ {ts : List Addr} {kvs : List (L2.Key × V)} {xs : List D}, Paired (fun (t : Addr) (q : L2.Key × V) => G' t = some (.tup [kV q.1, q.2])) ts kvs → RDs K G xs (kvs.map (·.2)) → RDs K G' (itemsOf (kvs.map (·.1)) xs) (ts.map V.ref)
  | _, _, [], .nil, h => rfl
  | _, _, d :: xs, .nil, h => by
    obtain ⟨_, _, e, _⟩ := h
    cases e
  | _, _, [], .cons h1 h2, h => by cases h
  | _, _, d :: xs, .cons h1 h2, ⟨x, us, e1, e2, e3⟩ => by
    cases e1
    exact ⟨_, _, rfl, ⟨_, _, rfl, SqT.of h1, _, _, rfl, rd_key _, _, _, rfl, RD.mono s _ _ e2, rfl⟩, rds_items s h2 e3⟩
section
variable {X : Cx} {e : Expr} {fe : Ex} {p apos cpos pos : Pos}
theorem ev_items (hc : X.calm = true) (he : PEv X e fe) (hg : Gl X "list") (hm : X.mg "list" = none) (hv : bootBuiltins "list" = some (.type "list")) (hbase : attributeBase e "items" X.env (eval e X.env) = eval e X.env := by rfl) (hline : (apos.endLine == cpos.line) = true := by rfl)
    (hs : starEach [.Call (.Attribute e "items" apos) [] [] cpos] X.env = (false, eval (.Call (.Attribute e "items" apos) [] [] cpos) X.env) :: starEach [] X.env := by rfl) :
    PEv X (.Call (.Name "list" p) [.Call (.Attribute e "items" apos) [] [] cpos] [] pos) (bItems fe) := PE.imp (LiI.pe_listItems hc he hg hm hv hbase hline hs) fun σ H Q h => by
  obtain ⟨F, G, ρ, r, ρ', R, q, k⟩ := h
  unfold bItems at q
  split at q
  rotate_left
  · cases q
  rename_i ks xs ρ1 e1
  cases q
  refine ⟨F, G, ρ, _, _, R, e1, fun v G1 H1 s1 R1 q1 => ?_⟩
  obtain ⟨d, kvs, rfl, hd, hks, hr⟩ := q1
  refine ⟨d, kvs, rfl, R1.gh _ _ hd, fun H' l ts sm hl hts nl hl' hp => ?_⟩
  let G2 : Hp := putTs G1 ts H'
  have g2 : Same G1 G2 := fun b u z => by
    show (if b ∈ ts then H' b else G1 b) = some u
    split
    · exact sm b u (R1.gh b u z)
    · exact z
  have g2h : Same G2 H' := fun b u z => by
    have z : (if b ∈ ts then H' b else G1 b) = some u := z
    split at z
    · exact z
    · exact sm b u (R1.gh b u z)
  have mem : ∀ b u, G2 b = some u → b ∈ ts ∨ G1 b = some u := fun b u z => by
    have z : (if b ∈ ts then H' b else G1 b) = some u := z
    split at z
    · rename_i h; exact .inl h
    · exact .inr z
  have pd : ∀ {ts' : List Addr} {kvs' : List (L2.Key × V)}, (∀ t ∈ ts', t ∈ ts) → Paired (fun (t : Addr) (q : L2.Key × V) => H' t = some (.tup [kV q.1, q.2])) ts' kvs' → Paired (fun (t : Addr) (q : L2.Key × V) => G2 t = some (.tup [kV q.1, q.2])) ts' kvs' := fun {ts' kvs'} hm hq => by
    induction hq with
    | nil => exact .nil
    | @cons a b l1 l2 h1 h2 ih =>
      refine .cons ?_ (ih fun t ht => hm t (List.mem_cons_of_mem _ ht))
      show (if a ∈ ts then H' a else G1 a) = _
      rw [if_pos (hm a List.mem_cons_self)]
      exact h1
  have no : ∀ {b u}, H1 b = some u → b ∉ ts := fun {b u} z y => by rw [hts b y] at z; cases z
  have R2 : Rep X.K F G2 H' σ ρ' := by
    refine ⟨g2h, fun b u z => sm b u (R1.fh b u z), fun b u z => ?_, R1.len, fun i x z => ?_, fun i b ys z => ?_, R1.sep⟩
    · have n1 := no (R1.fh b u z)
      show (if b ∈ ts then H' b else G1 b) = none
      rw [if_neg n1]; exact R1.fg b u z
    · obtain ⟨v, w1, w2⟩ := R1.dat i x z
      exact ⟨v, w1, RD.mono g2 _ _ w2⟩
    · obtain ⟨q, us, w1, w2, w3, w4, w5, w6⟩ := R1.own i b ys z
      refine ⟨q, us, w1, sm _ _ w2, ?_, w4, RDs.mono g2 _ _ w5, w6⟩
      show (if q ∈ ts then H' q else G1 q) = none
      rw [if_neg (no w2)]; exact w3
  refine k (.ref l) G2 H' (s1.trans g2) R2 ⟨l, ts.map V.ref, rfl, hl', ?_, R1.fNone hl, ?_, R1.oNe hl⟩
  · show (if l ∈ ts then H' l else G1 l) = none
    rw [if_neg nl]; exact R1.gNone hl
  · rw [← hks]
    exact rds_items g2 (pd (fun _ h => h) hp) hr
end
end M
namespace M
open PySem PySem.Spec PyProof.Rows L2 TL
def gRef (mg : Str → Option Value) (x : Str) : V := match mg x with
  | some (.ref f) => .ref f
  | _ => .non
theorem gRef_of {mg : Str → Option Value} {x : Str} {f : Addr} (h : mg x = some (.ref f)) : gRef mg x = .ref f := by
  unfold gRef; rw [h]
theorem ev_gref {X : Cx} {x : Str} {pos : Pos} (h : ∃ f, X.mg x = some (.ref f)) (hg : Gl X x := by rfl) (hdb : (x == ("__debug__" : Str)) = false := by decide) : PEv X (.Name x pos) (bC (.ptr (gRef X.mg x))) := by
  obtain ⟨f, hm⟩ := h
  rw [gRef_of hm]
  exact ev_const (v := .ref f) (pe_glob hg hm rfl hdb) fun G => rfl
theorem DefG.ref {P : Program} {w : World} {K : PySem.W.Frag} {mg : Str → Option Value} {base : Heap} {CX : CXT} {x : Str} {st : Stmt} {k : Nat} {ps : List Str} {dds : List D} {sp : Sp} (h : DefG P w K mg base CX x st k ps dds sp) : ∃ f, mg x = some (.ref f) := by
  obtain ⟨f, _, hm, _⟩ := h.ex
  exact ⟨f, hm⟩
section
variable {X : Cx} {CX : CXT} {k n : Nat} {f : Addr} {fd : FuncData} {ps ks : List Str} {sp : Sp} {E : L2.St → XK} {x y : Str} {p pos : Pos} {e : Expr} {es : List Expr} {kws : List Keyword} {t tk : TA} {g : List Value → List Value → List Value} {gV : List V → List V → List V}
def tCallGV (i : Nat) (f : Addr) (t : TE) : TE := fun σ H Q => σ[i]? = some (some (.ref f)) ∧ t σ H Q
theorem pe_callGV (i : Nat) (F : FnOk X.prog X.w X.K X.mg X.base CX k f fd ps sp) (hr : Room k X.A) (hp : PE X (.Name y p) (tVar i)) (hk : PySem.W.keepIn X.K (.ref f) = true) (hb : KBn X.K fd ps n ks g gV) (hx : ∀ σ, PassesAt CX X σ (E σ))
    (ha : PA X (e :: es) t) (hkw : PK X kws tk) (hall : (backToKw pos (keywordEach kws X.env)).all (·.1.isSome) = true := by rfl) (hks : (backToKw pos (keywordEach kws X.env)).filterMap (·.1) = ks := by rfl)
    (he : starEach (e :: es) X.env = (false, eval e X.env) :: starEach es X.env := by rfl)
    (hpl : ((backTo pos (starEach (e :: es) X.env)).any (·.1) || (backToKw pos (keywordEach kws X.env)).any (·.1.isNone)) = false := by rfl) :
    PE X (.Call (.Name y p) (e :: es) kws pos) (tCallGV i f (tCallG n ks.length sp gV E t tk)) := by
  refine ⟨fun pins s σ H Q I h => ?_⟩
  obtain ⟨h0, h⟩ := h
  refine wpAny_Call_Name_kw (thn (hp.run pins s σ H (fun v H' => v = .ref f ∧ H' = H) I ⟨.ref f, h0, rfl, rfl⟩) fun u s0 hh => ?_)
  obtain ⟨v, H0, I0, r0, rfl, rfl⟩ := hh
  obtain rfl : u = Value.ref f := r0
  refine PySem.W.callWith_KW (h₀ := X.base) I.ok.mod.kin hk hall (thn (ha.run pos pins s0 σ _ _ I0 h) fun us s1 ⟨vs, H1, I1, r, q⟩ => ?_) hpl he
  refine thn (hkw.run pos pins s1 σ H1 _ I1 q) fun ws s2 ⟨zs, H2, I2, rz, l1, l2, q2⟩ => ⟨I2.kIn, ?_⟩
  rw [hks]
  exact run_fnNS F hr hb (hx σ) I2 r rz l1 l2 q2
theorem pe_callGV0 (i : Nat) (F : FnOk X.prog X.w X.K X.mg X.base CX k f fd ps sp) (hr : Room k X.A) (hp : PE X (.Name y p) (tVar i)) (hk : PySem.W.keepIn X.K (.ref f) = true) (hb : KBn X.K fd ps 0 ks g gV) (hx : ∀ σ, PassesAt CX X σ (E σ))
    (hkw : PK X kws tk) (hall : (backToKw pos (keywordEach kws X.env)).all (·.1.isSome) = true := by rfl) (hks : (backToKw pos (keywordEach kws X.env)).filterMap (·.1) = ks := by rfl)
    (hpl : ((backTo pos (starEach [] X.env)).any (·.1) || (backToKw pos (keywordEach kws X.env)).any (·.1.isNone)) = false := by rfl) :
    PE X (.Call (.Name y p) [] kws pos) (tCallGV i f (tCallG 0 ks.length sp gV E tNil tk)) := by
  refine ⟨fun pins s σ H Q I h => ?_⟩
  obtain ⟨h0, h⟩ := h
  refine wpAny_Call_Name_kw (thn (hp.run pins s σ H (fun v H' => v = .ref f ∧ H' = H) I ⟨.ref f, h0, rfl, rfl⟩) fun u s0 hh => ?_)
  obtain ⟨v, H0, I0, r0, rfl, rfl⟩ := hh
  obtain rfl : u = Value.ref f := r0
  refine PySem.W.callWith_KW0 (h₀ := X.base) I.ok.mod.kin hk hall (thn (hkw.run pos pins s0 σ _ _ I0 h) fun ws s2 ⟨zs, H2, I2, rz, l1, l2, q2⟩ => ⟨I2.kIn, ?_⟩) hpl
  rw [hks]
  exact run_fnNS (vs := []) (us := []) F hr hb (hx σ) I2 .nil rz rfl l2 q2
end
def nIs (mg : Str → Option Value) (i : Nat) (x : Str) (f : NE) : NE := fun ρ κ Q E => dAt ρ i (.ptr (gRef mg x)) ∧ f ρ κ Q E
def nOr (f g : NE) : NE := fun ρ κ Q E => f ρ κ Q E ∨ g ρ κ Q E
theorem mono_is {mg : Str → Option Value} {i : Nat} {x : Str} {f : NE} (mf : Mono f) : Mono (nIs mg i x f) := fun ρ κ Q Q' E E' hq he h => ⟨h.1, mf _ _ _ _ _ _ hq he h.2⟩
theorem mono_or {f g : NE} (mf : Mono f) (mg : Mono g) : Mono (nOr f g) := fun ρ κ Q Q' E E' hq he h => h.imp (mf _ _ _ _ _ _ hq he) (mg _ _ _ _ _ _ hq he)
section
variable {X : Cx} {W : WX} {a e : Expr} {es : List Expr} {kws : List Keyword} {f g : NA} {fa fb : NE} {p pos : Pos} {x y : Str}
theorem en_or (h1 : PEn X W e fa) (h2 : PEn X W e fb) : PEn X W e (nOr fa fb) := ⟨fun pins s σ H Q I q => by
  obtain ⟨F, G, ρ, κ, hk, R, q⟩ := q
  rcases q with q | q
  · exact h1.run pins s σ H Q I ⟨F, G, ρ, κ, hk, R, q⟩
  · exact h2.run pins s σ H Q I ⟨F, G, ρ, κ, hk, R, q⟩⟩
theorem en_callGV {k n : Nat} {st : Stmt} {ps ks : List Str} {dds : List D} {sel : Sel} {F : Fn} (i : Nat) (T : DefG X.prog X.w X.K X.mg X.base (L2.CX X.prog X.w) x st k ps dds (spN X.K X.mg F)) (B : BindG x st ps n ks sel dds.length) (hl : ∀ d ∈ dds, isLit d = true) (mf : MonoF F) (m1 : Mono f) (m2 : Mono g) (tk : Takes X W) (hr : Room k X.A)
    (hp : PE X (.Name y p) (tVar i)) (ha : PAn X W (e :: es) f) (hkw : PKn X W kws g) (hall : (backToKw pos (keywordEach kws X.env)).all (·.1.isSome) = true := by rfl) (hks : (backToKw pos (keywordEach kws X.env)).filterMap (·.1) = ks := by rfl)
    (he : starEach (e :: es) X.env = (false, eval e X.env) :: starEach es X.env := by rfl)
    (hpl : ((backTo pos (starEach (e :: es) X.env)).any (·.1) || (backToKw pos (keywordEach kws X.env)).any (·.1.isNone)) = false := by rfl) : PEn X W (.Call (.Name y p) (e :: es) kws pos) (nIs X.mg i x (nCall F (nPick sel dds (nApp n ks.length f g)))) := by
  obtain ⟨fa, fd, hm, FD, G⟩ := T.ex
  obtain ⟨its, hb⟩ := kbn_of FD B
  refine PE.imp (pe_callGV (E := fun σ => WE W σ) i G hr hp FD.kp hb (fun σ => passAt tk σ) ha hkw hall hks he hpl) fun σ H Q q => ?_
  obtain ⟨F0, G0, ρ, κ, hk, R, h0, q⟩ := q
  obtain ⟨v, w1, w2⟩ := R.rp.dat _ _ h0
  have w2 : v = gRef X.mg x := w2
  rw [gRef_of hm] at w2
  subst w2
  exact ⟨w1, read_pick hl m1 m2 (read_callN mf (mono_pick (mono_app m1 m2)) ⟨F0, G0, ρ, κ, hk, R, q⟩)⟩
theorem en_callGV0 {k : Nat} {st : Stmt} {ps ks : List Str} {dds : List D} {sel : Sel} {F : Fn} (i : Nat) (T : DefG X.prog X.w X.K X.mg X.base (L2.CX X.prog X.w) x st k ps dds (spN X.K X.mg F)) (B : BindG x st ps 0 ks sel dds.length) (hl : ∀ d ∈ dds, isLit d = true) (mf : MonoF F) (m2 : Mono g) (tk : Takes X W) (hr : Room k X.A)
    (hp : PE X (.Name y p) (tVar i)) (hkw : PKn X W kws g) (hall : (backToKw pos (keywordEach kws X.env)).all (·.1.isSome) = true := by rfl) (hks : (backToKw pos (keywordEach kws X.env)).filterMap (·.1) = ks := by rfl)
    (hpl : ((backTo pos (starEach [] X.env)).any (·.1) || (backToKw pos (keywordEach kws X.env)).any (·.1.isNone)) = false := by rfl) : PEn X W (.Call (.Name y p) [] kws pos) (nIs X.mg i x (nCall F (nPick sel dds (nApp 0 ks.length (up aNil) g)))) := by
  obtain ⟨fa, fd, hm, FD, G⟩ := T.ex
  obtain ⟨its, hb⟩ := kbn_of FD B
  refine PE.imp (pe_callGV0 (E := fun σ => WE W σ) i G hr hp FD.kp hb (fun σ => passAt tk σ) hkw hall hks hpl) fun σ H Q q => ?_
  obtain ⟨F0, G0, ρ, κ, hk, R, h0, q⟩ := q
  obtain ⟨v, w1, w2⟩ := R.rp.dat _ _ h0
  have w2 : v = gRef X.mg x := w2
  rw [gRef_of hm] at w2
  subst w2
  have q1 := read_pick hl mono_up m2 (read_callN mf (mono_pick (mono_app mono_up m2)) ⟨F0, G0, ρ, κ, hk, R, q⟩)
  obtain ⟨F0, G0, ρ, κ, hk, R, q2⟩ := q1
  obtain ⟨r, ρ', e1, k⟩ := okQ.ex q2
  cases e1
  exact ⟨w1, k [] G0 H hk (Same.refl _) R rfl⟩
end
end M
namespace M
open PySem PySem.Spec PyProof.Rows L2 TL
theorem lits_ok {dds : List D} (h : dds.all isLit = true) : ∀ d ∈ dds, isLit d = true := List.all_eq_true.mp h
def aApp2 (n m : Nat) (f g : Ax) : Ax := fun ρ => match f ρ with
  | none => none
  | some (rs, ρ1) => match g ρ1 with
    | none => none
    | some (qs, ρ2) => if rs.length = n ∧ qs.length = m then some (rs ++ qs, ρ2) else none
def aPick (sel : Sel) (dds : List D) (f : Ax) : Ax := fun ρ => match f ρ with
  | none => none
  | some (rs, ρ1) => some (pickR sel rs dds, ρ1)
theorem read_call0 {K : PySem.W.Frag} {f : Fx} {fs : Ax} {E : XK} {σ : Sg} {H : Hp} {Q : VK} (h : tE K (bCall f fs) σ H Q) : tAr K fs σ H fun vs H1 => spV K f vs H1 Q E := by
  have h2 := read_call (E := E) h
  unfold tCall at h2
  simp only [List.append_nil] at h2
  exact h2
theorem read_pickV {K : PySem.W.Frag} {sel : Sel} {dds : List D} {n m : Nat} {f g : Ax} (hl : ∀ d ∈ dds, isLit d = true) {σ : Sg} {H : Hp} {Q : List V → Hp → Prop} (h : tAr K (aPick sel dds (aApp2 n m f g)) σ H Q) :
    tAr K f σ H fun vs H1 => tAr K g σ H1 fun zs H2 => vs.length = n ∧ zs.length = m ∧ Q (pick sel (vs ++ zs) (dds.map litV)) H2 := by
  obtain ⟨F, G, ρ, rs, ρ', R, e, k⟩ := h
  unfold aPick at e
  split at e
  · cases e
  rename_i r0 ρ0 e0
  cases e
  unfold aApp2 at e0
  split at e0
  · cases e0
  rename_i r1 ρ1 e1
  split at e0
  · cases e0
  rename_i r2 ρ2 e2
  split at e0
  rotate_left
  · cases e0
  rename_i hl2
  cases e0
  refine ⟨F, G, ρ, r1, ρ1, R, e1, fun vs G1 H1 s1 R1 q1 => ?_⟩
  refine ⟨F, G1, ρ1, r2, _, R1, e2, fun zs G2 H2 s2 R2 q2 => ?_⟩
  exact ⟨by rw [q1.len, hl2.1], by rw [q2.len, hl2.2], k _ G2 H2 (s1.trans s2) R2 (rns_pick hl (RNs.app2 (q1.mono s2) q2) sel)⟩
section
variable {X : Cx} {a e : Expr} {es : List Expr} {kws : List Keyword} {f g : Ax} {p pos : Pos} {x : Str}
theorem ev_callG {k n : Nat} {st : Stmt} {ps ks : List Str} {dds : List D} {sel : Sel} {F : Fx} (T : DefG X.prog X.w X.K X.mg X.base CX0 x st k ps dds (spV X.K F)) (B : BindG x st ps n ks sel dds.length) (hl : ∀ d ∈ dds, isLit d = true) (hr : Room k X.A)
    (ha : PAv X (e :: es) f) (hkw : PKv X kws g) (hg : Gl X x := by rfl) (hall : (backToKw pos (keywordEach kws X.env)).all (·.1.isSome) = true := by rfl) (hks : (backToKw pos (keywordEach kws X.env)).filterMap (·.1) = ks := by rfl)
    (hdb : (x == ("__debug__" : Str)) = false := by decide) (he : starEach (e :: es) X.env = (false, eval e X.env) :: starEach es X.env := by rfl)
    (hpl : ((backTo pos (starEach (e :: es) X.env)).any (·.1) || (backToKw pos (keywordEach kws X.env)).any (·.1.isNone)) = false := by rfl) : PEv X (.Call (.Name x p) (e :: es) kws pos) (bCall F (aPick sel dds (aApp2 n ks.length f g))) := by
  obtain ⟨fa, fd, hm, FD, G⟩ := T.ex
  obtain ⟨its, hb⟩ := kbn_of FD B
  exact PE.imp (pe_callG (E := fun _ => E0) G hr hg hm FD.kp hb (fun σ _ _ _ _ _ _ z => z.elim) ha hkw hall hks hdb he hpl) fun σ H Q q => read_pickV hl (read_call0 q)
theorem ev_callG0 {k : Nat} {st : Stmt} {ps ks : List Str} {dds : List D} {sel : Sel} {F : Fx} (T : DefG X.prog X.w X.K X.mg X.base CX0 x st k ps dds (spV X.K F)) (B : BindG x st ps 0 ks sel dds.length) (hl : ∀ d ∈ dds, isLit d = true) (hr : Room k X.A)
    (hkw : PKv X kws g) (hg : Gl X x := by rfl) (hall : (backToKw pos (keywordEach kws X.env)).all (·.1.isSome) = true := by rfl) (hks : (backToKw pos (keywordEach kws X.env)).filterMap (·.1) = ks := by rfl)
    (hdb : (x == ("__debug__" : Str)) = false := by decide)
    (hpl : ((backTo pos (starEach [] X.env)).any (·.1) || (backToKw pos (keywordEach kws X.env)).any (·.1.isNone)) = false := by rfl) : PEv X (.Call (.Name x p) [] kws pos) (bCall F (aPick sel dds (aApp2 0 ks.length aNil g))) := by
  obtain ⟨fa, fd, hm, FD, G⟩ := T.ex
  obtain ⟨its, hb⟩ := kbn_of FD B
  refine PE.imp (pe_callG0 (E := fun _ => E0) G hr hg hm FD.kp hb (fun σ _ _ _ _ _ _ z => z.elim) hkw hall hks hdb hpl) fun σ H Q q => ?_
  obtain ⟨F0, G0, ρ, rs, ρ', R, e0, k⟩ := read_pickV hl (read_call0 (E := E0) q)
  cases e0
  exact k [] G0 H (Same.refl _) R rfl
end
theorem exm_ok {K : PySem.W.Frag} {C D : Addr} {b : Bool} (h1 : PySem.W.subIn K (.ref D) (.type "BaseException") = some true) (h2 : PySem.W.isClsIn K D = true) (h3 : PySem.W.typeIn K (.ref D) = some (.type "type")) (h4 : PySem.W.subIn K (.ref C) (.ref D) = some b) : PySem.W.exmOne K (.ref C) (.ref D) = some b := by
  unfold PySem.W.exmOne
  rw [h1, if_pos (by decide)]
  unfold PySem.W.kitCls
  dsimp only
  have h2 : (PySem.W.clsIn K D).isSome = true := h2
  rw [h2, h3, if_pos (by decide), h4]
section
variable {K : PySem.W.Frag} {h : Heap} {mg : Str → Option Value}
theorem erf_of (X : K.In h) (G : h.Ns mainGlobals mg) {x qual : Str} {st : Stmt} {ns : List Str} {C f : Addr} {nm q : Str} {N : Addr} {bs bm : List Value} {sn : List Str} {sub : List Value} {ab : Bool} {col : Option Bool} {dd : Option Addr} {k0 k1 k2 k3 k5 : Option Value} {od an : Option Addr} {sl : Array (Option Value)} {oc kV dc pm cd ct : Value}
    (a : PySem.W.nsIn K mainGlobals x = some (some (.ref C))) (lC : K.lookup C = some (excClassObj nm q C N bs bm true sn sub ab col dd k0 k1 k2 k3 k5 "ValueError.__new__")) (hb : PySem.HandSPX.refsVE bm = true)
    (sa : PySem.W.findIn K (.ref C) "__setattr__" = some (some (.builtin "object.__setattr__"))) (exC : PySem.W.subIn K (.ref C) (.type "BaseException") = some true) (tyC : PySem.W.typeIn K (.ref C) = some (.type "type")) (kC : PySem.W.keepIn K (.ref C) = true)
    (ga : PySem.W.findIn K (.ref C) "__getattribute__" = some (some (.builtin "BaseException.__getattribute__"))) (gg : PySem.W.findIn K (.ref C) "__getattr__" = some none) (hdC : PySem.W.hasDictIn K C = true)
    (i1 : PySem.W.findIn K (.ref C) "__init__" = some (some (.ref f))) (tI : PySem.W.typeIn K (.ref f) = some (.type "function"))
    (l : K.lookup f = some ⟨oc, od, .func (PySem.W.fnOf "__init__" qual (defArgs st) (defBody st) (defScope st) .none kV dc pm an cd ct), sl⟩) (c : PySem.W.codeIn K cd qual = true) (k : PySem.W.keepIn K (.ref f) = true)
    (hn : ∀ n ∈ ns, PySem.W.findIn K (.ref C) n = some none) : ErF K mg x qual st ns :=
  ⟨C, f, _, PySem.W.mg_of X G a, ⟨⟨nm, q, N, bs, bm, sn, sub, ab, col, dd, k0, k1, k2, k3, k5, lC, hb⟩, sa, exC, tyC, kC⟩, ⟨ga, gg, exC, hdC⟩, hn, i1, tI, fun_mk l c k⟩
structure EcF (K : PySem.W.Frag) (mg : Str → Option Value) (ns : List Str) (p : Str × Addr) : Prop where
  m : mg p.1 = some (.ref p.2)
  ex : PySem.W.subIn K (.ref p.2) (.type "BaseException") = some true
  is : PySem.W.isClsIn K p.2 = true
  ty : PySem.W.typeIn K (.ref p.2) = some (.type "type")
  xf : XfC K p.2
  no : ∀ n ∈ ns, PySem.W.findIn K (.ref p.2) n = some none
theorem ecf_of (X : K.In h) (G : h.Ns mainGlobals mg) {ns : List Str} {x : Str} {C : Addr} (a : PySem.W.nsIn K mainGlobals x = some (some (.ref C))) (exC : PySem.W.subIn K (.ref C) (.type "BaseException") = some true) (is : PySem.W.isClsIn K C = true) (tyC : PySem.W.typeIn K (.ref C) = some (.type "type"))
    (ga : PySem.W.findIn K (.ref C) "__getattribute__" = some (some (.builtin "BaseException.__getattribute__"))) (gg : PySem.W.findIn K (.ref C) "__getattr__" = some none) (hdC : PySem.W.hasDictIn K C = true) (hn : ∀ n ∈ ns, PySem.W.findIn K (.ref C) n = some none) : EcF K mg ns (x, C) :=
  ⟨PySem.W.mg_of X G a, exC, is, tyC, ⟨ga, gg, exC, hdC⟩, hn⟩
theorem ertab_of {ns : List Str} {l : List (Str × Addr)} (h1 : ∀ p ∈ l, EcF K mg ns p) (h2 : ∀ p ∈ l, ∀ q ∈ l, PySem.W.subIn K (.ref p.2) (.ref q.2) = some (erIs p.1 q.1)) : ErTab K mg ns (l.map (·.1)) where
  cls c hc := by
    obtain ⟨p, hp, rfl⟩ := List.mem_map.mp hc
    exact ⟨p.2, (h1 p hp).m, (h1 p hp).xf, (h1 p hp).no⟩
  is c hc x hx C D e1 e2 := by
    obtain ⟨p, hp, rfl⟩ := List.mem_map.mp hc
    obtain ⟨q, hq, rfl⟩ := List.mem_map.mp hx
    obtain rfl : C = p.2 := by have := e1.symm.trans (h1 p hp).m; cases this; rfl
    obtain rfl : D = q.2 := by have := e2.symm.trans (h1 q hq).m; cases this; rfl
    exact exm_ok (h1 q hq).ex (h1 q hq).is (h1 q hq).ty (h2 p hp q hq)
end
end M
namespace M
open PySem PySem.Spec PyProof.Rows L2 TL
theorem takesN {X : Cx} : Takes X wNone := takes0
end M
namespace M
open PySem PySem.Spec PyProof.Rows L2 TL
theorem PS.nox {X : Cx} {st : Stmt} {t : TS} (h : PS X.nox st t) : PS X st t := ⟨fun pins s σ H D I hw =>
  wpAny_mono (h.run pins s σ H D (I.wish _) hw) (fun _ _ q => q.unwish) fun _ _ z => False.elim z⟩
theorem sv_nox {X : Cx} {st : Stmt} {s : Sx} (h : PSv X.nox st s) : PSv X st s := PS.nox h
theorem bv_nox {X : Cx} {st : List Stmt} {s : Sx} (h : PBv X.nox st s) : PBv X st s := PSs.nox h
theorem op_mul_str {X : Cx} : OpR X (binaryOp .Mult) (fun x y H Q => ∃ i n, x = .str i ∧ y = .int n ∧ MulOk i n ∧ Q (.str (Txt.mul i n)) H) := by
  intro pins s σ H x y v u Q I rx ry h
  obtain ⟨i, n, rfl, rfl, hz, q⟩ := h
  obtain ⟨t, rfl⟩ := rx
  obtain ⟨t', rfl⟩ := ry
  exact SB.mul hz (fun t' tk => ⟨.str _, H, I.tok _, ⟨_, rfl⟩, q⟩)
theorem foldl_reps (c : Array Nat) : ∀ (k : Nat) (acc : Array Nat), (List.replicate k c).foldl (· ++ ·) acc = ⟨acc.toList ++ (List.replicate k c.toList).flatten⟩
  | 0, acc => by simp
  | k + 1, acc => by
    rw [List.replicate_succ, List.foldl_cons, foldl_reps c k, List.replicate_succ, List.flatten_cons]
    simp
theorem txt_mul (s : List Nat) (n : Int) : Txt.mul ⟨s.toArray⟩ n = ⟨(List.replicate n.toNat s).flatten.toArray⟩ := by
  unfold Txt.mul
  by_cases h1 : n < 1
  · rw [if_pos h1]
    have : n.toNat = 0 := by omega
    rw [this]; rfl
  · rw [if_neg h1]
    split
    · rename_i hc
      rw [Bool.or_eq_true, beq_iff_eq, beq_iff_eq] at hc
      rcases hc with h | h
      · subst h; simp
      · have : s = [] := by
          cases s with
          | nil => rfl
          | cons a l => simp [Str.length] at h
        subst this
        simp
    · rw [foldl_reps]
      simp
def mulS : D → D → Option RV
  | .str s, .int n => if -(2 ^ 63) ≤ n ∧ n.toNat ≤ 16777216 ∧ s.length * n.toNat ≤ 16777216 then some (.d (.str (List.replicate n.toNat s).flatten)) else none
  | _, _ => none
theorem opd_mulS {K : PySem.W.Frag} : OpD K (fun x y H Q => ∃ i n, x = .str i ∧ y = .int n ∧ MulOk i n ∧ Q (.str (Txt.mul i n)) H) mulS := by
  intro G H x y dx dy z s hx hy e Q k
  unfold mulS at e
  split at e
  · split at e
    · rename_i a n h
      cases e
      refine ⟨_, n, hx.str, hy.int, mulOk_of a.length n.toNat (by simp [Str.length]) (by omega) h.1 h.2.1 h.2.2, ?_⟩
      rw [txt_mul]
      exact k _ _ (.same rfl)
    · cases e
  · cases e
theorem ev_mulS {X : Cx} {a b : Expr} {fa fb : Ex} {pos : Pos} (ha : PEv X a fa) (hb : PEv X b fb) : PEv X (.BinOp a .Mult b pos) (bOp mulS fa fb) := ev_op op_mul_str opd_mulS ha hb
def mulL : D → D → Option RV
  | .lst s, .int n => if -(2 ^ 63) ≤ n ∧ n < 2 ^ 63 ∧ s.length * n.toNat ≤ 16777216 then some (.own (List.replicate n.toNat s).flatten) else none
  | _, _ => none
theorem opd_mulL {K : PySem.W.Frag} : OpD K rRep mulL := by
  intro G H x y dx dy z s hx hy e Q k
  unfold mulL at e
  split at e
  · split at e
    · rename_i a n h
      cases e
      obtain ⟨p, vs, e1, e2, e3⟩ := hx.lst s
      refine ⟨p, n, vs, e1, hy.int, e2, h.1, h.2.1, by rw [sizeLine_num, e3.length]; exact h.2.2, fun l hl => k _ _ (.lst hl (e3.rep _))⟩
    · cases e
  · cases e
theorem ev_mulL {X : Cx} {a b : Expr} {fa fb : Ex} {pos : Pos} (ha : PEv X a fa) (hb : PEv X b fb) : PEv X (.BinOp a .Mult b pos) (bOp mulL fa fb) := ev_op op_rep opd_mulL ha hb
end M
namespace M
open PySem PySem.Spec PyProof.Rows L2 TL
theorem turn_long {P : Program} {w : World} {K : PySem.W.Frag} {tg : Expr} (it : Addr) (lo : Int) (n : Nat) : Turn P w K tg (Itr lo n) [it] it (fun i h => IsLongIter h it (lo + (i : Nat) * 1) ((n : Int) - (i : Nat)) 1) where
  mem := by simp
  obj := fun i h st b hb => by
    have e : b = it := by simpa using hb
    subst e
    exact ⟨_, st, fun v z => by
      have z' : Data.fields _ = Data.cell v := z
      cases z'⟩
  keep := fun i h h' st k => k it (by simp) _ st
  item := by
    intro X hP hw hK hc i pins s σ H E I hf st hg
    subst hP hw hK
    obtain ⟨f0, f1, f2, f3, f4, f5⟩ := hf it (by simp)
    have W := Walks.longrange (prog := X.prog) (w := X.w) (I.ok.hd hc) it lo 1 n
    refine W.item i s _ _ hg st fun v h' tk hv st' kk => ?_
    obtain ⟨t, rfl⟩ := hv
    have I1 : Inv X pins σ H { s with heap := h', toks := tk } := I.turned (fun b o hb e => kk b o (by simpa using hb) e) f0 f1 f3 f4 f5
    refine ⟨_, rfl, go_of (s := { s with heap := h', toks := tk }) (n := "longrange_iterator") st' rfl rfl (by decide) ⟨.int (lo + i), H, I1, ⟨t, ?_⟩, ⟨rfl, rfl⟩, st', fun b hb => (hf b hb).1⟩⟩
    rw [Int.mul_one]
  done := by
    intro X hP hw hK hc i pins s σ H E I hf st hg
    subst hP hw hK
    obtain ⟨f0, f1, f2, f3, f4, f5⟩ := hf it (by simp)
    exact wpAny_pyNext_long_end (I.ok.hd hc) st (by have : n ≤ i := hg; omega) fun h' eb => ⟨rfl, I.turned (t' := s.toks) (fun b o hb e => eb b o hb e) f0 f1 f3 f4 f5⟩
  self := fun _ _ _ _ _ st h => wpAny_pyIter_longiter st h
theorem range_itB {X : Cx} {tg : Expr} {pins : List (Addr × Obj)} {σ : L2.St} {H : Hp} {s : Shared} {R : It → Hp → Prop} {E : Value → Shared → Prop} {lo hi : Int} {t u v : Tok} {tk : Nat} (I : Inv X pins σ H s)
    (q : R (Itr lo (hi - lo).toNat) H) : wpAny (model X.prog X.w) X.A (pyIter (.ref s.heap.objs.size)) (PIE X pins σ tg R) E { s with heap := s.heap.push { cls := .type "range", data := .fields #[.int lo t, .int hi u, .int 1 v] }, toks := tk } := by
  have I1 : Inv X pins σ H { s with heap := s.heap.push { cls := .type "range", data := .fields #[.int lo t, .int hi u, .int 1 v] }, toks := tk } := I.kept fun b o e => Heap.get?_push_of_some _ e
  have e1 : lo + ((0 : Nat) : Int) * 1 = lo := by simp
  have e2 : (((hi - lo).toNat : Nat) : Int) - ((0 : Nat) : Int) = Builtin.Range.rangeSize lo hi 1 := by rw [rangeSize_one]; split <;> omega
  cases hs : Builtin.Range.small lo hi 1 with
  | true =>
    refine wpAny_pyIter_range (IsRange.new ..) hs ?_
    refine ⟨(s.heap.push { cls := .type "range", data := .fields #[.int lo t, .int hi u, .int 1 v] }).objs.size, [(s.heap.push { cls := .type "range", data := .fields #[.int lo t, .int hi u, .int 1 v] }).objs.size], _, _, H, rfl,
      I1.kept (t' := tk) fun b o e => Heap.get?_push_of_some _ e, turn_range _ lo (hi - lo).toNat, ?_, fun b hb => ?_, q⟩
    · show IsRangeIter _ _ (lo + ((0 : Nat) : Int) * 1) ((((hi - lo).toNat : Nat) : Int) - ((0 : Nat) : Int)) 1
      rw [e1, e2]
      exact Heap.get?_push_size _ rfl
    · have e : b = (s.heap.push { cls := .type "range", data := .fields #[.int lo t, .int hi u, .int 1 v] }).objs.size := by simpa using hb
      subst e
      exact I1.fpOk (Nat.le_refl _) (I1.hok.fresh (Nat.le_refl _))
  | false =>
    refine wpAny_pyIter_longrange (IsRange.new ..) hs ?_
    refine ⟨(s.heap.push { cls := .type "range", data := .fields #[.int lo t, .int hi u, .int 1 v] }).objs.size, [(s.heap.push { cls := .type "range", data := .fields #[.int lo t, .int hi u, .int 1 v] }).objs.size], _, _, H, rfl,
      I1.kept (t' := tk) fun b o e => Heap.get?_push_of_some _ e, turn_long _ lo (hi - lo).toNat, ?_, fun b hb => ?_, q⟩
    · show IsLongIter _ _ (lo + ((0 : Nat) : Int) * 1) ((((hi - lo).toNat : Nat) : Int) - ((0 : Nat) : Int)) 1
      rw [e1, e2]
      exact Heap.get?_push_size _ rfl
    · have e : b = (s.heap.push { cls := .type "range", data := .fields #[.int lo t, .int hi u, .int 1 v] }).objs.size := by simpa using hb
      subst e
      exact I1.fpOk (Nat.le_refl _) (I1.hok.fresh (Nat.le_refl _))
def iRngB (ta : TA) : TI := fun σ H R => ta σ H fun vs H1 => ∃ i j : Int, vs = [.int i, .int j] ∧ R (Itr i (j - i).toNat) H1
theorem pi_rangeB {X : Cx} {tg : Expr} {a b : Expr} {ta : TA} {p pos : Pos} (hg : Gl X "range") (hm : X.mg "range" = none) (ha : PA X [a, b] ta) (hs : starEach [a, b] X.env = [(false, eval a X.env), (false, eval b X.env)] := by rfl) (hs2 : starEach [b] X.env = [(false, eval b X.env)] := by rfl) :
    PI X tg (.Call (.Name "range" p) [a, b] [] pos) (iRngB ta) := by
  refine ⟨fun pins s σ H R I h => ?_⟩
  refine Call_ (ld_blt I hg hm PyProof.Rows.boot_range (PyProof.Rows.callWith_type1 (thn (ha.run pos pins s σ H _ I h) fun us s1 ⟨vs, H1, I1, r1, q1⟩ => ?_) (by rw [hs, hs2]) (by rw [hs2]; rfl)))
  obtain ⟨i, j, e, q⟩ := q1
  subst e
  cases r1 with
  | cons r rr =>
    cases rr with
    | cons r' rr =>
      cases rr
      obtain ⟨t, rfl⟩ := r
      obtain ⟨t', rfl⟩ := r'
      exact call_range_2 (range_itB I1 q)
def iRangeB (f g : Ex) : Ix := fun ρ => match f ρ with
  | some (.d (.int i), ρ1) => match g ρ1 with
    | some (.d (.int j), ρ2) => some ((List.range (j - i).toNat).map fun k : Nat => D.int (i + (k : Int)), ρ2)
    | _ => none
  | _ => none
theorem iv_rangeB {X : Cx} {p pos : Pos} {tg a b : Expr} {f g : Ex} (hg : Gl X "range") (hm : X.mg "range" = none) (h : PEv X a f) (h2 : PEv X b g) (hst : starEach [a, b] X.env = [(false, eval a X.env), (false, eval b X.env)] := by rfl) (hst2 : starEach [b] X.env = [(false, eval b X.env)] := by rfl) :
    PIv X tg (.Call (.Name "range" p) [a, b] [] pos) (iRangeB f g) := by
  refine iv_of (pi_rangeB hg hm (pa_cons h (pa_cons h2 pa_nil hst2) (by rw [hst, hst2])) hst hst2) fun σ H R h => ?_
  obtain ⟨F, G, ρ, xs, ρ', R0, e, k⟩ := h
  unfold iRangeB at e
  split at e
  rotate_left
  · cases e
  rename_i i ρ1 e1
  split at e
  rotate_left
  · cases e
  rename_i j ρ2 e2
  cases e
  refine ⟨F, G, ρ, _, ρ1, R0, e1, fun v G1 H1 s1 R1 q1 => ⟨F, G1, ρ1, _, _, R1, e2, fun w G2 H2 s2 R2 q2 => ⟨i, j, by cases (show v = .int i from q1); cases (show w = .int j from q2); rfl, ?_⟩⟩⟩
  exact k _ H2 G2 (s1.trans s2) R2 jok_range
end M
namespace M
open PySem PySem.Spec PyProof.Rows L2 TL
def stepN (i j c : Int) : Nat := if i < j then ((j - i - 1) / c + 1).toNat else 0
theorem RgC.up {i j c : Int} (hc : 0 < c) (hc2 : c < 1073741824) (ha : -1099511627776 ≤ i) (ha' : i ≤ 1099511627776) (hb : -1099511627776 ≤ j) (hb' : j ≤ 1099511627776) : RgC i j c (stepN i j c) := by
  have e : Builtin.Range.rangeSize i j c = (stepN i j c : Nat) := by
    unfold Builtin.Range.rangeSize stepN
    rw [if_pos hc]
    split
    · have : 0 ≤ (j - i - 1) / c := Int.ediv_nonneg (by omega) (by omega)
      omega
    · rfl
  have hn : (stepN i j c : Int) ≤ 2199023255553 := by
    unfold stepN
    split
    · have h1 : 0 ≤ (j - i - 1) / c := Int.ediv_nonneg (by omega) (by omega)
      have h2 : (j - i - 1) / c ≤ j - i - 1 := Int.ediv_le_self _ (by omega)
      omega
    · omega
  refine ⟨by omega, by omega, ?_, e⟩
  unfold Builtin.Range.small
  rw [e]
  have hc' : c > 0 := hc
  rw [if_pos hc']
  simp only [Builtin.Range.rangeFitsLong, Bool.and_eq_true, Bool.or_eq_true, decide_eq_true_eq, beq_iff_eq]
  refine ⟨⟨⟨⟨by omega, by omega⟩, by omega⟩, by omega⟩, .inr (by omega)⟩
def iRangeU (f g h : Ex) : Ix := fun ρ => match f ρ with
  | some (.d (.int i), ρ1) => match g ρ1 with
    | some (.d (.int j), ρ2) => match h ρ2 with
      | some (.d (.int c), ρ3) => if (0 < c ∧ c < 1073741824) ∧ -1099511627776 ≤ i ∧ i ≤ 1099511627776 ∧ -1099511627776 ≤ j ∧ j ≤ 1099511627776 then some ((List.range (stepN i j c)).map fun k : Nat => D.int (i + (k : Int) * c), ρ3) else none
      | _ => none
    | _ => none
  | _ => none
section
variable {X : Cx} {a b c e : Expr} {es : List Expr} {fa fb fc : Ex} {pos p : Pos}
theorem iv_rangeU {tg : Expr} (hg : Gl X "range") (hm : X.mg "range" = none) (h : PEv X a fa) (h2 : PEv X b fb) (h3 : PEv X c fc) (hst : starEach [a, b, c] X.env = (false, eval a X.env) :: starEach [b, c] X.env := by rfl) (hst2 : starEach [b, c] X.env = (false, eval b X.env) :: starEach [c] X.env := by rfl)
    (hst3 : starEach [c] X.env = (false, eval c X.env) :: starEach [] X.env := by rfl) (hpl : (backTo pos (starEach [b, c] X.env)).any (·.1) = false := by rfl) :
    PIv X tg (.Call (.Name "range" p) [a, b, c] [] pos) (iRangeU fa fb fc) := by
  refine iv_of (pi_range3 hg hm (pa_cons h (pa_cons h2 (pa_cons h3 pa_nil hst3) hst2) hst) hst hpl) fun σ H R h => ?_
  obtain ⟨F, G, ρ, xs, ρ', R0, e, k⟩ := h
  unfold iRangeU at e
  split at e
  rotate_left
  · cases e
  rename_i i ρ1 e1
  split at e
  rotate_left
  · cases e
  rename_i j ρ2 e2
  split at e
  rotate_left
  · cases e
  rename_i c ρ3 e3
  split at e
  rotate_left
  · cases e
  rename_i hb
  cases e
  obtain ⟨⟨c1, c2⟩, b1, b2, b3, b4⟩ := hb
  refine ⟨F, G, ρ, _, ρ1, R0, e1, fun v G1 H1 s1 R1 q1 => ⟨F, G1, ρ1, _, ρ2, R1, e2, fun w G2 H2 s2 R2 q2 => ⟨F, G2, ρ2, _, _, R2, e3, fun u G3 H3 s3 R3 q3 => ?_⟩⟩⟩
  cases (show v = .int i from q1)
  cases (show w = .int j from q2)
  cases (show u = .int c from q3)
  exact ⟨i, j, c, _, rfl, RgC.up c1 c2 b1 b2 b3 b4, k _ H3 G3 ((s1.trans s2).trans s3) R3 jok_rangeC⟩
end
end M
namespace M
open PySem PySem.Spec PyProof.Rows L2 TL
def truD : D → Option Bool
  | .non => some false
  | .bl b => some b
  | .int i => some (i != 0)
  | .str s => if s.length ≤ 16777216 then some (!s.isEmpty) else none
  | .lst xs => some (!xs.isEmpty)
  | .scr xs => some (!xs.isEmpty)
  | .tup xs => some (!xs.isEmpty)
  | .dct ks _ => some (!ks.isEmpty)
  | _ => none
def bTr (f : Ex) : Tx := fun ρ => match f ρ with
  | none => none
  | some (r, ρ1) => match pk ρ1 r.nrm with
    | none => none
    | some d => (truD d).map fun b => (b, ρ1)
theorem isEmpty_rds {K : PySem.W.Frag} {G : Hp} {ds : List D} {vs : List V} (h : RDs K G ds vs) : vs.isEmpty = ds.isEmpty := by
  have := h.length
  cases ds <;> cases vs <;> simp_all
theorem tru_of {K : PySem.W.Frag} {G H : Hp} {d : D} {v : V} {b : Bool} (s : Same G H) (r : RO K G H d v) (e : truD d = some b) : TruV K v H b := by
  cases d with
  | non => cases e; rw [r.non]; exact rfl
  | bl c => cases e; rw [r.bl]; exact rfl
  | int i => cases e; rw [r.int]; exact rfl
  | str t =>
    have e : (if t.length ≤ 16777216 then some (!t.isEmpty) else none) = some b := e
    split at e
    · rename_i hl
      cases e
      rw [r.str]
      refine ⟨by rw [sizeLine_num]; simpa [Str.length] using hl, ?_⟩
      cases t with
      | nil => rfl
      | cons c l =>
        show true = ((((c :: l).length : Nat) : Int) != 0)
        have h : ((((c :: l).length : Nat) : Int) != 0) = true := by
          rw [bne_iff_ne]
          simp only [List.length_cons]
          omega
        exact h.symm
    · cases e
  | lst ys =>
    cases e
    obtain ⟨p, vs, rfl, f2, f3⟩ := r.lst s
    exact .inl ⟨vs, SqL.of f2, by rw [isEmpty_rds f3]⟩
  | scr ys =>
    cases e
    obtain ⟨p, vs, rfl, f2, f3⟩ := r.scr s
    exact .inl ⟨vs, f2, by rw [isEmpty_rds f3]⟩
  | tup ys =>
    cases e
    obtain ⟨p, vs, rfl, f2, f3⟩ := r.tup s
    exact .inr (.inl ⟨vs, f2, by rw [isEmpty_rds f3]⟩)
  | dct ks ys =>
    cases e
    obtain ⟨p, kvs, rfl, f2, f3, f4⟩ := r.dct s
    refine .inr (.inr ⟨kvs, f2, ?_⟩)
    subst f3
    cases kvs <;> rfl
  | _ => cases e
theorem tv_tru {X : Cx} {e : Expr} {fa : Ex} (h : PEv X e fa) (he : ∀ whole, isTrue e X.env whole = (do let v ← whole; standAt e.pos; holding [v] (truthy v)) := by intro _; rfl) : PTv X e (bTr fa) :=
  PT.imp (pt_truth h he) fun σ H Q q => by
    obtain ⟨F, G, ρ, b, ρ', R, q, k⟩ := q
    unfold bTr at q
    split at q
    · cases q
    rename_i r ρ1 e1
    split at q
    · cases q
    rename_i d e2
    obtain ⟨c, ec, eq⟩ := Option.map_eq_some_iff.mp q
    cases eq
    refine ⟨F, G, ρ, r, _, R, e1, fun v G1 H1 s1 R1 q1 => ?_⟩
    obtain ⟨G2, t2, R2, n2⟩ := nrm_step R1 q1
    exact ⟨b, tru_of R2.gh (pk_ro R2 n2 e2) ec, k G2 H1 (s1.trans t2) R2⟩
end M
namespace M
open PySem PySem.Spec PyProof.Rows L2 TL
@[irreducible] def wN (F : Fn) (as : List SV) (κ : Ck) (Q : RV → List SV → Ck → Prop) (E : Er → List SV → Ck → Prop) (_ : Dep Q := .mk) (_ : Dep E := .mk) : Prop := F as κ Q E
theorem wN_def {F : Fn} {as : List SV} {κ : Ck} {Q : RV → List SV → Ck → Prop} {E : Er → List SV → Ck → Prop} : wN F as κ Q E ↔ F as κ Q E := by
  unfold wN
  exact Iff.rfl
section
variable {ρ : Sl} {κ : Ck} {fa fb fc : Ex} {c d : Tx} {fs : Ax} {s : Sx} {f g : NS} {t : NT} {na nb : NE} {ns ms : NA} {i j n m : Nat} {E : Er → Sl → Ck → Prop}
@[simp ↓] theorem up_E {Q : RV → Sl → Ck → Prop} : up fa ρ κ Q E ↔ wE fa ρ fun r ρ' => Q r ρ' κ := Iff.rfl
@[simp ↓] theorem up_T {Q : Bool → Sl → Ck → Prop} : up c ρ κ Q E ↔ wT c ρ fun r ρ' => Q r ρ' κ := Iff.rfl
@[simp ↓] theorem up_A {Q : List RV → Sl → Ck → Prop} : up fs ρ κ Q E ↔ wA fs ρ fun r ρ' => Q r ρ' κ := Iff.rfl
@[simp ↓] theorem up_S {Q : Fl → Sl → Ck → Prop} : up s ρ κ Q E ↔ wS s ρ fun r ρ' => Q r ρ' κ := Iff.rfl
def thenN (g : NS) (Q : Fl → Sl → Ck → Prop) (E : Er → Sl → Ck → Prop) : Fl → Sl → Ck → Prop := fun fl ρ κ => match fl with
  | .nx => g ρ κ Q E
  | o => Q o ρ κ
section
variable {Q : Fl → Sl → Ck → Prop}
@[simp ↓] theorem thenN_nx : thenN g Q E .nx ρ κ ↔ g ρ κ Q E := Iff.rfl
@[simp ↓] theorem thenN_bk : thenN g Q E .bk ρ κ ↔ Q .bk ρ κ := Iff.rfl
@[simp ↓] theorem thenN_ct : thenN g Q E .ct ρ κ ↔ Q .ct ρ κ := Iff.rfl
@[simp ↓] theorem thenN_rt {r : RV} : thenN g Q E (.rt r) ρ κ ↔ Q (.rt r) ρ κ := Iff.rfl
@[simp ↓] theorem n_Seq : nSeq f g ρ κ Q E ↔ f ρ κ (thenN g Q E) E := by
  have e : (fun (fl : Fl) (ρ1 : Sl) (κ1 : Ck) => match fl with
    | .nx => g ρ1 κ1 Q E
    | o => Q o ρ1 κ1) = thenN g Q E := by
    funext fl ρ1 κ1
    cases fl <;> rfl
  unfold nSeq
  exact Iff.of_eq (congrArg (fun q => f ρ κ q E) e)
@[simp ↓] theorem n_Drop : nDrop na ρ κ Q E ↔ na ρ κ (fun _ ρ1 κ1 => Q .nx ρ1 κ1) E := Iff.rfl
@[simp ↓] theorem n_Ret : nRet na ρ κ Q E ↔ na ρ κ (fun r ρ1 κ1 => Q (.rt r) ρ1 κ1) E := Iff.rfl
@[simp ↓] theorem n_Set : nSet i na ρ κ Q E ↔ na ρ κ (fun r ρ1 κ1 => oq (putR i r ρ1) fun ρ2 => Q .nx ρ2 κ1) E := Iff.rfl
def ifN {α : Type} (f g : Nx α) (Q : α → Sl → Ck → Prop) (E : Er → Sl → Ck → Prop) : Bool → Sl → Ck → Prop := fun b ρ κ => match b with
  | true => f ρ κ Q E
  | false => g ρ κ Q E
@[simp ↓] theorem ifN_t {α : Type} {f g : Nx α} {Q : α → Sl → Ck → Prop} : ifN f g Q E true ρ κ ↔ f ρ κ Q E := Iff.rfl
@[simp ↓] theorem ifN_f {α : Type} {f g : Nx α} {Q : α → Sl → Ck → Prop} : ifN f g Q E false ρ κ ↔ g ρ κ Q E := Iff.rfl
theorem ifN_dec {α : Type} {f g : Nx α} {Q : α → Sl → Ck → Prop} {b : Bool} : ifN f g Q E b ρ κ ↔ if b = true then f ρ κ Q E else g ρ κ Q E := by cases b <;> simp
@[simp ↓] theorem n_If : nIf t f g ρ κ Q E ↔ t ρ κ (ifN f g Q E) E := by
  have e : (fun (b : Bool) (ρ1 : Sl) (κ1 : Ck) => (if b = true then f else g) ρ1 κ1 Q E) = ifN f g Q E := by
    funext b ρ1 κ1
    cases b <;> rfl
  unfold nIf nBind
  exact Iff.of_eq (congrArg (fun q => t ρ κ q E) e)
@[simp ↓] theorem n_Raise {c : Str} {fn : List Str} : nRaise c fn ns ρ κ Q E ↔ ns ρ κ (fun rs ρ1 κ1 => oq (dsOf rs) fun ds => ds.length = fn.length ∧ E ⟨c, fn.reverse, ds.reverse⟩ ρ1 κ1) E := Iff.rfl
@[simp ↓] theorem n_Try {l : List Str} {hs : List Hn} : nTry l f hs ρ κ Q E ↔ f ρ κ Q (fun er ρ1 κ1 => er.c ∈ l ∧ nHd er ρ1 κ1 Q E hs) := Iff.rfl
theorem nHd_nil {er : Er} : nHd er ρ κ Q E [] ↔ E er ρ κ := Iff.rfl
theorem nHd_no {er : Er} {x : Str} {oi : Option Nat} {sf : Addr → Addr → Sx} {r : List Hn} (h : erIs er.c x = false) : nHd er ρ κ Q E ((x, oi, sf) :: r) ↔ nHd er ρ κ Q E r := by
  conv => lhs; unfold nHd
  rw [if_neg (by rw [h]; exact Bool.false_ne_true)]
theorem nHd_yes {er : Er} {x : Str} {i : Nat} {sf : Addr → Addr → Sx} {r : List Hn} (h : erIs er.c x = true) : nHd er ρ κ Q E ((x, some i, sf) :: r) ↔ er.ns ≠ [] ∧ ∀ a dd, wS (sf a dd) (ρ.set i (some (.d (.exn a dd er.ns er.xs)))) fun fl ρ' => Q fl (dropS (some i) fl ρ') κ := by
  conv => lhs; unfold nHd
  rw [if_pos h]
  exact Iff.rfl
theorem nHd_yes0 {er : Er} {x : Str} {sf : Addr → Addr → Sx} {r : List Hn} (h : erIs er.c x = true) : nHd er ρ κ Q E ((x, none, sf) :: r) ↔ ∀ a dd : Addr, wS (sf a dd) ρ fun fl ρ' => Q fl (dropS none fl ρ') κ := by
  conv => lhs; unfold nHd
  rw [if_pos h]
  exact Iff.rfl
@[simp] theorem dropS_rt {oi : Option Nat} {r : RV} : dropS oi (.rt r) ρ = ρ := by cases oi <;> rfl
end
section
variable {Q : RV → Sl → Ck → Prop}
@[simp ↓] theorem n_IfE : nIfE t na nb ρ κ Q E ↔ t ρ κ (ifN na nb Q E) E := by
  have e : (fun (b : Bool) (ρ1 : Sl) (κ1 : Ck) => (if b = true then na else nb) ρ1 κ1 Q E) = ifN na nb Q E := by
    funext b ρ1 κ1
    cases b <;> rfl
  unfold nIfE nBind
  exact Iff.of_eq (congrArg (fun q => t ρ κ q E) e)
@[simp ↓] theorem n_Tup : nTup ns ρ κ Q E ↔ ns ρ κ (fun rs ρ1 κ1 => oq (dsOf rs) fun ds => ds.length ≤ 16777216 ∧ Q (.d (.tup ds)) ρ1 κ1) E := Iff.rfl
@[simp ↓] theorem n_Lst : nLst ns ρ κ Q E ↔ ns ρ κ (fun rs ρ1 κ1 => oq (dsOf rs) fun ds => ds.length ≤ 16777216 ∧ Q (.own ds) ρ1 κ1) E := Iff.rfl
@[simp ↓] theorem n_Call {F : Fn} : nCall F ns ρ κ Q E ↔ ns ρ κ (fun rs ρ1 κ1 => (bors rs).Nodup ∧ oq (argsOf ρ1 rs) fun args => wN F args κ1 (fun r as κ2 => nobor r ∧ oq (give rs as ρ1) fun ρ2 => Q r ρ2 κ2) (fun e as κ2 => oq (give rs as ρ1) fun ρ2 => E e ρ2 κ2)) E := by
  unfold nCall nBind wN
  exact Iff.rfl
@[simp ↓] theorem n_Is {mg : Str → Option Value} {x : Str} : nIs mg i x na ρ κ Q E ↔ dAt ρ i (.ptr (gRef mg x)) ∧ na ρ κ Q E := Iff.rfl
@[simp ↓] theorem n_Or : nOr na nb ρ κ Q E ↔ na ρ κ Q E ∨ nb ρ κ Q E := Iff.rfl
end
section
variable {Q : List RV → Sl → Ck → Prop}
@[simp ↓] theorem n_Cons : nCons na ns ρ κ Q E ↔ na ρ κ (fun r ρ1 κ1 => ns ρ1 κ1 (fun rs ρ2 κ2 => Q (r.nrm :: rs) ρ2 κ2) E) E := Iff.rfl
@[simp ↓] theorem n_App : nApp n m ns ms ρ κ Q E ↔ ns ρ κ (fun rs ρ1 κ1 => ms ρ1 κ1 (fun qs ρ2 κ2 => rs.length = n ∧ qs.length = m ∧ Q (rs ++ qs) ρ2 κ2) E) E := Iff.rfl
@[simp ↓] theorem n_Pick {sel : Sel} {dds : List D} : nPick sel dds ns ρ κ Q E ↔ ns ρ κ (fun rs ρ1 κ1 => Q (pickR sel rs dds) ρ1 κ1) E := Iff.rfl
end
theorem wN_run {body : NS} {args : List SV} {Q : RV → List SV → Ck → Prop} {E : Er → List SV → Ck → Prop} : wN (runN n m body) args κ Q E ↔ args.length = m ∧ body (args.map some ++ List.replicate (n - args.length) none) κ
  (fun fl ρ κ' => oq (fin fl ρ) fun r => oq (outs args 0 ρ) fun as => Q r as κ') (fun e ρ κ' => oq (outs args 0 ρ) fun as => E e as κ') := by
  unfold wN runN
  exact Iff.rfl
@[simp ↓] theorem wA_App2 {ft : Ax} {QA : List RV → Sl → Prop} : wA (aApp2 n m fs ft) ρ QA ↔ wA fs ρ fun rs ρ1 => wA ft ρ1 fun qs ρ2 => rs.length = n ∧ qs.length = m ∧ QA (rs ++ qs) ρ2 := by
  unfold wA aApp2
  rcases fs ρ with _ | ⟨rs, ρ1⟩
  · simp
  rcases e2 : ft ρ1 with _ | ⟨qs, ρ2⟩
  · simp [e2]
  simp only [okQ_some, e2]
  by_cases h : rs.length = n ∧ qs.length = m
  · rw [if_pos h]; simp [h]
  · rw [if_neg h]; simp only [okQ_none, false_iff]; exact fun z => h ⟨z.1, z.2.1⟩
@[simp ↓] theorem wA_Pick {sel : Sel} {dds : List D} {QA : List RV → Sl → Prop} : wA (aPick sel dds fs) ρ QA ↔ wA fs ρ fun rs ρ1 => QA (pickR sel rs dds) ρ1 := by
  unfold wA aPick
  rcases fs ρ with _ | ⟨rs, ρ1⟩ <;> simp
@[simp ↓] theorem wE_Items {QE : RV → Sl → Prop} : wE (bItems fa) ρ QE ↔ wE fa ρ fun r ρ1 => match r with
    | .d (.dct ks xs) => QE (.own (itemsOf ks xs)) ρ1
    | _ => False := by
  unfold wE bItems
  rcases fa ρ with _ | ⟨r, ρ1⟩
  · simp
  cases r with
  | d x => cases x <;> simp
  | own x => simp
  | bor x => simp
@[simp ↓] theorem wE_Giv {a dd : Addr} {f : Str} {QE : RV → Sl → Prop} : wE (bGiv a dd f (bV i)) ρ QE ↔ (match ρ[i]? with
  | some (some (.d (.exn a' dd' ns xs))) => (a' = a ∧ dd' = dd) ∧ oq (lkD ns xs f) fun x => QE (.d x) ρ
  | _ => False) := by
  unfold wE bGiv bV
  split
  · rename_i a' dd' ns xs ρ1 e
    split at e <;> cases e
    rename_i x e1
    rw [e1]
    by_cases h : a' = a ∧ dd' = dd
    · rw [if_pos h]
      show _ ↔ (a' = a ∧ dd' = dd) ∧ oq (lkD ns xs f) _
      cases lkD ns xs f <;> simp [h]
    · rw [if_neg h]
      simp only [okQ_none, false_iff]
      exact fun z => h z.1
  · rename_i h
    simp only [okQ_none, false_iff]
    split
    · rename_i e1
      rw [e1] at h
      exact fun _ => h _ _ _ _ _ rfl
    · exact id
@[simp] theorem lkD_hit {n : Str} {ns : List Str} {x : D} {xs : List D} : lkD (n :: ns) (x :: xs) n = some x := by unfold lkD; simp
end
@[simp] theorem pickR_nil {rs : List RV} {dds : List D} : pickR [] rs dds = [] := rfl
@[simp] theorem pickR_inl {rs : List RV} {dds : List D} {i : Nat} {s : Sel} : pickR (.inl i :: s) rs dds = (rs[i]?).toList ++ pickR s rs dds := rfl
@[simp] theorem pickR_inr {rs : List RV} {dds : List D} {i : Nat} {s : Sel} : pickR (.inr i :: s) rs dds = ((dds[i]?).map RV.d).toList ++ pickR s rs dds := by
  show ((dds.map RV.d)[i]?).toList ++ _ = _
  rw [List.getElem?_map]
  rfl
@[simp] theorem shlD_int {i j : Int} : shlD (.int i) (.int j) = if (0 ≤ j ∧ j ≤ 1000000 ∧ i.natAbs < 18446744073709551616) then some (.d (.int (i * 2 ^ j.toNat))) else none := by
  simp only [shlD, iiD, powC, p64n, decide_eq_true_eq]
@[simp] theorem shrD_int {i j : Int} : shrD (.int i) (.int j) = if 0 ≤ j then some (.d (.int (i / 2 ^ j.toNat))) else none := by
  simp only [shrD, iiD, shrC, decide_eq_true_eq]
theorem bitAnd_one (n : Nat) : Builtin.bitAnd (n : Int) 1 = ((n % 2 : Nat) : Int) := by
  show ((n &&& 1 : Nat) : Int) = _
  rw [Nat.and_one_is_mod]
@[simp] theorem andD_one {n : Nat} : andD (.int (n : Int)) (.int 1) = some (.d (.int ((n % 2 : Nat) : Int))) := by
  show some (RV.d (.int (Builtin.bitAnd (n : Int) 1))) = _
  rw [bitAnd_one]
@[simp] theorem isD_dn {ks : List L2.Key} {xs : List D} : isD (.dct ks xs) .non = some (.d (.bl false)) := rfl
@[simp] theorem isnD_dn {ks : List L2.Key} {xs : List D} : isnD (.dct ks xs) .non = some (.d (.bl true)) := rfl
@[simp] theorem tyD_dct {ks : List L2.Key} {xs : List D} : tyD (.dct ks xs) = some "dict" := rfl
@[simp] theorem kit_dict_dict : kitB "dict" "dict" = some true := by decide +kernel
@[simp] theorem kit_dict_str : kitB "dict" "str" = some false := by decide +kernel
@[simp] theorem kit_dict_int : kitB "dict" "int" = some false := by decide +kernel
@[simp] theorem kit_dict_bool : kitB "dict" "bool" = some false := by decide +kernel
@[simp] theorem kit_dict_list : kitB "dict" "list" = some false := by decide +kernel
@[simp] theorem kit_dict_tuple : kitB "dict" "tuple" = some false := by decide +kernel
@[simp] theorem mulS_si {s : List Nat} {n : Int} : mulS (.str s) (.int n) = if -9223372036854775808 ≤ n ∧ n.toNat ≤ 16777216 ∧ s.length * n.toNat ≤ 16777216 then some (.d (.str (List.replicate n.toNat s).flatten)) else none := by
  show (if -(2 ^ 63) ≤ n ∧ _ then _ else _) = _
  rw [show (-(2 ^ 63) : Int) = -9223372036854775808 from by decide]
@[simp] theorem mulL_li {s : List D} {n : Int} : mulL (.lst s) (.int n) = if -9223372036854775808 ≤ n ∧ n < 9223372036854775808 ∧ s.length * n.toNat ≤ 16777216 then some (.own (List.replicate n.toNat s).flatten) else none := by
  show (if -(2 ^ 63) ≤ n ∧ n < 2 ^ 63 ∧ _ then _ else _) = _
  rw [show (-(2 ^ 63) : Int) = -9223372036854775808 from by decide, show ((2 ^ 63) : Int) = 9223372036854775808 from by decide]
@[simp ↓] theorem wI_RangeB {ρ : Sl} {fa fb : Ex} {QI : List D → Sl → Prop} : wI (iRangeB fa fb) ρ QI ↔ wE fa ρ fun r ρ1 => isInt r fun i => wE fb ρ1 fun q ρ2 => isInt q fun j => QI ((List.range (j - i).toNat).map fun k : Nat => D.int (i + (k : Int))) ρ2 := by
  unfold wE wI iRangeB
  rcases fa ρ with _ | ⟨r, ρ1⟩
  · simp
  cases r with
  | own x => simp [isInt]
  | bor x => simp [isInt]
  | d x =>
    cases x with
    | int i =>
      simp only [okQ_some, isInt_int]
      rcases fb ρ1 with _ | ⟨q, ρ2⟩
      · simp
      cases q with
      | own x => simp [isInt]
      | bor x => simp [isInt]
      | d y => cases y <;> simp [isInt]
    | _ => simp [isInt]
@[simp ↓] theorem wI_RangeU {ρ : Sl} {fa fb fc : Ex} {QI : List D → Sl → Prop} : wI (iRangeU fa fb fc) ρ QI ↔ wE fa ρ fun r ρ1 => isInt r fun i => wE fb ρ1 fun q ρ2 => isInt q fun j => wE fc ρ2 fun p ρ3 => isInt p fun c => ((0 < c ∧ c < 1073741824) ∧ -1099511627776 ≤ i ∧ i ≤ 1099511627776 ∧ -1099511627776 ≤ j ∧ j ≤ 1099511627776) ∧ QI ((List.range (stepN i j c)).map fun k : Nat => D.int (i + (k : Int) * c)) ρ3 := by
  unfold wE wI iRangeU
  rcases fa ρ with _ | ⟨r, ρ1⟩
  · simp
  cases r with
  | own x => simp [isInt]
  | bor x => simp [isInt]
  | d x =>
    cases x with
    | int i =>
      simp only [okQ_some, isInt_int]
      rcases fb ρ1 with _ | ⟨q, ρ2⟩
      · simp
      cases q with
      | own x => simp [isInt]
      | bor x => simp [isInt]
      | d y =>
        cases y with
        | int j =>
          simp only [okQ_some, isInt_int]
          rcases fc ρ2 with _ | ⟨p, ρ3⟩
          · simp
          cases p with
          | own x => simp [isInt]
          | bor x => simp [isInt]
          | d u =>
            cases u with
            | int k =>
              simp only [okQ_some, isInt_int]
              split
              · rename_i h; simp only [okQ_some]; exact ⟨fun q => ⟨h, q⟩, fun q => q.2⟩
              · rename_i h; simp only [okQ_none, false_iff]; exact fun z => h z.1
            | _ => simp [isInt]
        | _ => simp [isInt]
    | _ => simp [isInt]
theorem str_eq {a b : List Nat} : ((⟨a.toArray⟩ : Str) = ⟨b.toArray⟩) ↔ a = b := by
  constructor
  · intro h
    have := congrArg (fun z : Str => z.cps.toList) h
    simpa using this
  · rintro rfl; rfl
theorem mem_strs (p : List Nat) : ∀ ts : List (List Nat), memB (.str p) (ts.map .str) = decide (p ∈ ts)
  | [] => by simp [memB, inV]
  | t :: ts => by
    have ih := mem_strs p ts
    unfold memB inV at ih ⊢
    have e : eqV (toV (.str t)) (toV (.str p)) = decide (p = t) := by
      show ((⟨t.toArray⟩ : Str) == ⟨p.toArray⟩) = _
      by_cases h : t = p
      · subst h; simp
      · have h1 : ¬ ((⟨t.toArray⟩ : Str) = ⟨p.toArray⟩) := fun z => h (str_eq.mp z)
        have h2 : ¬ p = t := fun z => h z.symm
        rw [decide_eq_false h2]
        exact beq_eq_false_iff_ne.mpr h1
    simp only [List.map_cons, List.any_cons, ih]
    first
      | rw [e]
      | (rw [show eqV (toV (.str p)) (toV (.str t)) = decide (p = t) from by
          show ((⟨p.toArray⟩ : Str) == ⟨t.toArray⟩) = _
          by_cases h : p = t
          · subst h; simp
          · rw [decide_eq_false h]
            exact beq_eq_false_iff_ne.mpr fun z => h (str_eq.mp z)])
    simp [Bool.decide_or]
theorem inD_strs {p : List Nat} {ts : List (List Nat)} : inD (.str p) (.tup (ts.map .str)) = some (.d (.bl (decide (p ∈ ts)))) := by
  have hf : ∀ ts : List (List Nat), (ts.map D.str).all flatD = true := fun ts => by simp [flatD]
  unfold inD
  have e : inB (.str p) (.tup (ts.map .str)) = some (memB (.str p) (ts.map .str)) := by
    unfold inB
    split
    · rename_i h; cases h
    · rename_i h1 h2
      cases h2
      rw [hf]
      rfl
    · rename_i h1 h2; cases h2
    · rename_i h1 h2 h3; exact (h1 _ rfl).elim
  rw [e, mem_strs]
  rfl
theorem ninD_strs {p : List Nat} {ts : List (List Nat)} : ninD (.str p) (.tup (ts.map .str)) = some (.d (.bl (!decide (p ∈ ts)))) := by
  have h := inD_strs (p := p) (ts := ts)
  unfold inD at h
  unfold ninD
  obtain ⟨c, h1, h2⟩ := Option.map_eq_some_iff.mp h
  rw [h1]
  cases h2
  rfl
@[simp] theorem startsD_str {s t : List Nat} : startsD s [.str t] = some (.d (.bl (t.isPrefixOf s))) := by
  have e : Txt.startswith ⟨s.toArray⟩ ⟨t.toArray⟩ = t.isPrefixOf s := by
    unfold Txt.startswith
    rw [PySem.StrLaws.subAt_eq]
    simp only [Str.length, List.size_toArray, List.drop_zero, Nat.zero_add]
    by_cases h : t <+: s
    · rw [List.isPrefixOf_iff_prefix.mpr h, ← List.prefix_iff_eq_take.mp h]
      simp [h.length_le]
    · have h1 : t.isPrefixOf s = false := by
        cases e : t.isPrefixOf s with
        | false => rfl
        | true => exact absurd (List.isPrefixOf_iff_prefix.mp e) h
      rw [h1]
      by_cases hl : s.take t.length = t
      · exact absurd (List.prefix_iff_eq_take.mpr hl.symm) h
      · simp [hl]
  show some (RV.d (D.bl (Txt.startswith ⟨s.toArray⟩ ⟨t.toArray⟩))) = _
  rw [e]
@[simp] theorem endsD_str {s t : List Nat} : endsD s [.str t] = some (.d (.bl (t.isSuffixOf s))) := by
  have e : Txt.endswith ⟨s.toArray⟩ ⟨t.toArray⟩ = t.isSuffixOf s := by
    unfold Txt.endswith
    rw [PySem.StrLaws.subAt_eq]
    simp only [Str.length, List.size_toArray, Nat.zero_add]
    by_cases h : t <:+ s
    · rw [List.isSuffixOf_iff_suffix.mpr h]
      have h2 := List.suffix_iff_eq_drop.mp h
      have h3 : (s.drop (s.length - t.length)).take t.length = t := by
        rw [← h2]; simp
      simp [h.length_le, h3]
    · have h1 : t.isSuffixOf s = false := by
        cases e : t.isSuffixOf s with
        | false => rfl
        | true => exact absurd (List.isSuffixOf_iff_suffix.mp e) h
      rw [h1]
      by_cases hl : t.length ≤ s.length ∧ (s.drop (s.length - t.length)).take t.length = t
      · refine absurd ?_ h
        rw [List.suffix_iff_eq_drop]
        have : (s.drop (s.length - t.length)).take t.length = s.drop (s.length - t.length) := List.take_of_length_le (by simp; omega)
        rw [← this, hl.2]
      · by_cases g : t.length ≤ s.length
        · have : ¬ (s.drop (s.length - t.length)).take t.length = t := fun z => hl ⟨g, z⟩
          simp [this]
        · simp [g]
  show some (RV.d (D.bl (Txt.endswith ⟨s.toArray⟩ ⟨t.toArray⟩))) = _
  rw [e]
end M
namespace M
open PySem PySem.Spec PyProof.Rows L2 TL
@[simp ↓] theorem wT_Tr {ρ : Sl} {fa : Ex} {QT : Bool → Sl → Prop} : wT (bTr fa) ρ QT ↔ wE fa ρ fun r ρ1 => oq (pk ρ1 r.nrm) fun d => oq (truD d) fun b => QT b ρ1 := by
  unfold wE wT bTr
  rcases fa ρ with _ | ⟨r, ρ1⟩
  · simp
  simp only [okQ_some]
  cases e : pk ρ1 r.nrm with
  | none => simp
  | some d => cases e2 : truD d <;> simp [e2]
@[simp] theorem truD_non : truD .non = some false := rfl
@[simp] theorem truD_bl {b : Bool} : truD (.bl b) = some b := rfl
@[simp] theorem truD_int {i : Int} : truD (.int i) = some (i != 0) := rfl
@[simp] theorem truD_str {s : List Nat} : truD (.str s) = if s.length ≤ 16777216 then some (!s.isEmpty) else none := rfl
@[simp] theorem truD_lst {s : List D} : truD (.lst s) = some (!s.isEmpty) := rfl
@[simp] theorem truD_tup {s : List D} : truD (.tup s) = some (!s.isEmpty) := rfl
theorem allD_comp {α : Type} {f : α → Bool} {l : List α} : allD [.lst (l.map (D.bl ∘ f))] = some (.d (.bl (l.all f))) := by
  rw [← List.map_map, allD_lst, List.all_map]
  rfl
theorem anyD_comp {α : Type} {f : α → Bool} {l : List α} : anyD [.lst (l.map (D.bl ∘ f))] = some (.d (.bl (l.any f))) := by
  rw [← List.map_map, anyD_lst, List.any_map]
  rfl
theorem filter_true {α : Type} (l : List α) : l.filter (fun _ => true) = l := List.filter_eq_self.mpr (by simp)
end M
namespace K54
open PySem PySem.Spec PyProof.Rows L2 TL M
def ones (n : Nat) : Nat := if h : n = 0 then 0 else n % 2 + ones (n / 2)
decreasing_by omega
def tLet (n : Nat) : Nat := 97 + ones n % 2
def tPart (i n : Nat) : List Nat := (List.range n).map fun k => tLet (i + k)
def tCnt (i : Nat) : Nat × Nat := (i / 2 + (if i % 2 = 1 ∧ tLet (i - 1) = 97 then 1 else 0), i / 2 + (if i % 2 = 1 ∧ tLet (i - 1) = 98 then 1 else 0))
def idxD : D → Option Nat
  | .int i => if 0 ≤ i ∧ i ≤ 10 ^ 30 then some i.toNat else none
  | _ => none
def lenD' : D → Option Nat
  | .int i => if 0 ≤ i ∧ i ≤ 200 then some i.toNat else none
  | _ => none
def sS (s : String) : List Nat := s.toList.map Char.toNat
def cTold : List Nat := [116, 111, 108, 100]
def cIndex : List Nat := [105, 110, 100, 101, 120]
def cLength : List Nat := [108, 101, 110, 103, 116, 104]
def cWord : List Nat := [119, 111, 114, 100]
def cShort : List Nat := [115, 104, 111, 114, 116]
def cOverlap : List Nat := [111, 118, 101, 114, 108, 97, 112]
def cPart : List Nat := [112, 97, 114, 116]
def cPrefix : List Nat := [112, 114, 101, 102, 105, 120]
def cLetter : List Nat := [108, 101, 116, 116, 101, 114]
def asked (w : List Nat) (x y : D) : List D :=
  if w = cPart then match idxD x with
    | none => [.str cIndex, x]
    | some i => match lenD' y with
      | none => [.str cLength, y]
      | some n => [.str cTold, .str (tPart i n)]
  else if w = cPrefix then match lenD' y with
    | none => [.str cLength, y]
    | some n => [.str cTold, .str (tPart 0 n)]
  else match idxD x with
    | none => [.str cIndex, x]
    | some i => if w = cLetter then [.str cTold, .str [tLet i]] else [.str cTold, .tup [.int (tCnt i).1, .int (tCnt i).2]]
def F__law_asked : Fx := fun as => match as with
  | [.d (.str w), .d x, .d y, .d (.bl b)] => if (tyD x).isSome = true ∧ (tyD y).isSome = true then some (.own (asked w x y), as) else none
  | _ => none
def ovAt (s : List Nat) (e p : Nat) : Bool := decide ((s.drop (e - 2 * p - 1)).take (p + 1) = (s.drop (e - p - 1)).take (p + 1))
def ovEnd (s : List Nat) (e : Nat) : Option (Nat × Nat) := ((List.range' 1 ((e - 1) / 2)).reverse.find? (ovAt s e)).map fun p => (e, e - 2 * p - 1)
def ovl (s : List Nat) : Option (Nat × Nat) := (List.range' 3 (s.length - 2)).findSome? (ovEnd s)
def halve : List Nat → Option (List Nat)
  | [] => some []
  | [_] => none
  | a :: b :: t => if (a = 97 ∧ b = 98) ∨ (a = 98 ∧ b = 97) then (halve t).map (a :: ·) else none
def ends5 : List (List Nat) := [[], [97], [98], [97, 97], [98, 98]]
def inner (s x z : List Nat) : List Nat := (s.drop x.length).take (s.length - z.length - x.length)
def peelAt (s x z : List Nat) : Option (List Nat) := if x.isPrefixOf s = true ∧ z.isSuffixOf s = true then halve (inner s x z) else none
def peel (s : List Nat) : Option (List Nat × List Nat × List Nat) := ends5.findSome? fun x => ends5.findSome? fun z => (peelAt s x z).map fun y => (x, y, z)
def peelD (s : List Nat) : D := match peel s with
  | some (x, y, z) => .tup [.str x, .str y, .str z]
  | none => .non
def w2D : D → Option (List Nat)
  | .str s => if s.length ≤ 200 ∧ s.all (fun c => c == 97 || c == 98) = true then some s else none
  | _ => none
def peeledL (x : D) : List D := match w2D x with
  | none => [.str cWord, x]
  | some s => if s.length < 7 then [.str cShort, x] else match ovl s with
    | some (e, st) => [.str cOverlap, .tup [.int e, .int st]]
    | none => [.str cTold, peelD s]
def okL : D → Bool
  | .str s => decide (s.length ≤ 16777216)
  | _ => true
def F__law_peeled : Fx := fun as => match as with
  | [.d x, .d (.bl b)] => if (tyD x).isSome = true ∧ okL x = true then some (.own (peeledL x), as) else none
  | _ => none
end K54
namespace K54
open PySem PySem.Spec PyProof.Rows L2 TL M
def topS (i : Nat) : Stmt := PySem.Challenge.pw_stringbench_k54_the_thue_word_and_peelin.main.body.getD i (.Pass ⟨0, 0, 0, 0⟩)
abbrev ecs : List Str := ["StringError", "InvalidIndex", "InvalidLength", "InvalidWord", "HasOverlap", "TooShort"]
abbrev flds : List Str := ["end", "given", "start", "word"]
noncomputable section
abbrev s_InvalidIndex : Stmt := inClass (topS 2) 0
theorem sc_InvalidIndex : FnScope ["self", "given"] ["self", "given"] (defScope s_InvalidIndex) := ⟨rfl, rfl, rfl, by decide +kernel, rfl, by decide +kernel, by decide +kernel⟩
abbrev s_InvalidLength : Stmt := inClass (topS 3) 0
theorem sc_InvalidLength : FnScope ["self", "given"] ["self", "given"] (defScope s_InvalidLength) := ⟨rfl, rfl, rfl, by decide +kernel, rfl, by decide +kernel, by decide +kernel⟩
abbrev s_InvalidWord : Stmt := inClass (topS 4) 0
theorem sc_InvalidWord : FnScope ["self", "given"] ["self", "given"] (defScope s_InvalidWord) := ⟨rfl, rfl, rfl, by decide +kernel, rfl, by decide +kernel, by decide +kernel⟩
abbrev s_HasOverlap : Stmt := inClass (topS 6) 0
theorem sc_HasOverlap : FnScope ["self", "end", "start"] ["self", "end", "start"] (defScope s_HasOverlap) := ⟨rfl, rfl, rfl, by decide +kernel, rfl, by decide +kernel, by decide +kernel⟩
abbrev s_TooShort : Stmt := inClass (topS 7) 0
theorem sc_TooShort : FnScope ["self", "word"] ["self", "word"] (defScope s_TooShort) := ⟨rfl, rfl, rfl, by decide +kernel, rfl, by decide +kernel, by decide +kernel⟩
abbrev s_is_integer : Stmt := topS 12
abbrev N_is_integer : List Str := ["value"]
theorem sc_is_integer : FnScope N_is_integer ["value"] (defScope s_is_integer) := ⟨rfl, rfl, rfl, by decide +kernel, rfl, by decide +kernel, by decide +kernel⟩
def B_is_integer : Sx := sRet (bAndV (bFn (isiD "int") (aCons (bV 0) (aCons (bC (.ptr (.ty "int"))) aNil))) (bNotV (bFn (isiD "bool") (aCons (bV 0) (aCons (bC (.ptr (.ty "bool"))) aNil)))))
def F_is_integer : Fx := runB 1 1 B_is_integer
abbrev s_is_between : Stmt := topS 13
abbrev N_is_between : List Str := ["value", "least", "most"]
theorem sc_is_between : FnScope N_is_between ["value", "least", "most"] (defScope s_is_between) := ⟨rfl, rfl, rfl, by decide +kernel, rfl, by decide +kernel, by decide +kernel⟩
def B_is_between : Sx := sRet (bAndV (bCall F_is_integer (aCons (bFz (bV 0)) (aNil))) (bChain leD leD (bV 1) (bV 0) (bV 2)))
def F_is_between : Fx := runB 3 3 B_is_between
abbrev s_is_letters : Stmt := topS 14
abbrev N_is_letters : List Str := ["value", "letters", "most", "sign"]
theorem sc_is_letters : FnScope N_is_letters ["value", "letters", "most"] (defScope s_is_letters) := ⟨rfl, rfl, rfl, by decide +kernel, rfl, by decide +kernel, by decide +kernel⟩
def B_is_letters : Sx := sSeq (sIf (bOr (bNot (bT (bFn (isiD "str") (aCons (bV 0) (aCons (bC (.ptr (.ty "str"))) aNil))))) (bT (bOp gtD (bFn lenD (aCons (bV 0) (aNil))) (bV 2)))) (sRet (bC (.bl false))) (sNx))
    (sRet (bFn allD (aCons (bComp (iTxt (bV 0)) [3] (bName 3) (bYes) (bOp inD (bV 3) (bSl (bC (.str [97, 98, 99, 100])) (oNone) (oSome (bV 1))))) (aNil))))
def F_is_letters : Fx := runB 4 3 B_is_letters
abbrev s_check_word : Stmt := topS 15
abbrev N_check_word : List Str := ["value", "letters", "most"]
theorem sc_check_word : FnScope N_check_word ["value", "letters", "most"] (defScope s_check_word) := ⟨rfl, rfl, rfl, by decide +kernel, rfl, by decide +kernel, by decide +kernel⟩
def B_check_word : NS := nIf (up (bNot (bT (bCall F_is_letters (aApp (aCons (bFz (bV 0)) (aCons (bFz (bV 1)) (aCons (bFz (bV 2)) (aNil)))) []))))) (nRaise "InvalidWord" ["given"] (up (aCons (bFz (bV 0)) (aNil)))) (up sNx)
def F_check_word : Fn := runN 3 3 (B_check_word)
abbrev s_overlap_place : Stmt := topS 17
abbrev N_overlap_place : List Str := ["word", "end", "size", "start"]
theorem sc_overlap_place : FnScope N_overlap_place ["word"] (defScope s_overlap_place) := ⟨rfl, rfl, rfl, by decide +kernel, rfl, by decide +kernel, by decide +kernel⟩
def B_overlap_place : Sx := sSeq (sFor (iRange2 (bC (.int 3)) (bOp addD (bFn lenD (aCons (bV 0) (aNil))) (bC (.int 1)))) (bName 1) (sFor (iRange3 (bOp fdivD (bOp subD (bV 1) (bC (.int 1))) (bC (.int 2))) (bC (.int 0)) (bUn negD (bC (.int 1)))) (bName 2) (sSeq (sSet 3 (bOp subD (bOp subD (bV 1) (bOp mulD (bC (.int 2)) (bV 2))) (bC (.int 1))))
    (sIf (bT (bOp eqD (bSl (bV 0) (oSome (bV 3)) (oSome (bOp subD (bV 1) (bV 2)))) (bSl (bV 0) (oSome (bOp addD (bV 3) (bV 2))) (oSome (bV 1))))) (sRet (bTupE (aCons (bFz (bV 1)) (aCons (bFz (bV 3)) (aNil))))) (sNx)))))
    (sRet (bC .non))
def F_overlap_place : Fx := runB 4 1 B_overlap_place
abbrev s_letter_of : Stmt := topS 22
abbrev N_letter_of : List Str := ["index", "ones", "rest"]
theorem sc_letter_of : FnScope N_letter_of ["index"] (defScope s_letter_of) := ⟨rfl, rfl, rfl, by decide +kernel, rfl, by decide +kernel, by decide +kernel⟩
def B_letter_of : Sx := sSeq (sParN [1, 2] (aoCons (bC (.int 0)) (aoCons (bFz (bV 0)) (aNil))))
    (sSeq (sWhile 1000000 (bT (bOp gtD (bV 2) (bC (.int 0)))) (sParN [1, 2] (aoCons (bOp addD (bV 1) (bOp modD (bV 2) (bC (.int 2)))) (aoCons (bOp fdivD (bV 2) (bC (.int 2))) (aNil)))))
    (sRet (bOp ixD (bC (.str [97, 98])) (bOp modD (bV 1) (bC (.int 2))))))
def F_letter_of : Fx := runB 3 1 B_letter_of
abbrev s_part_of : Stmt := topS 23
abbrev N_part_of : List Str := ["index", "length", "at"]
theorem sc_part_of : FnScope N_part_of ["index", "length"] (defScope s_part_of) := ⟨rfl, rfl, rfl, by decide +kernel, rfl, by decide +kernel, by decide +kernel⟩
def B_part_of : Sx := sRet (bMt joinD (bC (.str [])) (aCons (bComp (iRangeB (bV 0) (bOp addD (bV 0) (bV 1))) [2] (bName 2) (bYes) (bCall F_letter_of (aCons (bFz (bV 2)) (aNil)))) (aNil)))
def F_part_of : Fx := runB 3 2 B_part_of
abbrev s_check_size : Stmt := topS 24
abbrev N_check_size : List Str := ["length", "most", "least"]
theorem sc_check_size : FnScope N_check_size ["length", "most", "least"] (defScope s_check_size) := ⟨rfl, rfl, rfl, by decide +kernel, rfl, by decide +kernel, by decide +kernel⟩
def B_check_size : NS := nIf (up (bNot (bT (bCall F_is_between (aCons (bFz (bV 0)) (aCons (bFz (bV 2)) (aCons (bFz (bV 1)) (aNil)))))))) (nRaise "InvalidLength" ["given"] (up (aCons (bFz (bV 0)) (aNil)))) (up sNx)
def F_check_size : Fn := runN 3 3 (B_check_size)
abbrev s_check_place : Stmt := topS 25
abbrev N_check_place : List Str := ["index"]
theorem sc_check_place : FnScope N_check_place ["index"] (defScope s_check_place) := ⟨rfl, rfl, rfl, by decide +kernel, rfl, by decide +kernel, by decide +kernel⟩
def B_check_place : NS := nIf (up (bNot (bT (bCall F_is_between (aCons (bFz (bV 0)) (aCons (bFz (bC (.int 0))) (aCons (bFz (bC (.int 1000000000000000000000000000000))) (aNil)))))))) (nRaise "InvalidIndex" ["given"] (up (aCons (bFz (bV 0)) (aNil)))) (up sNx)
def F_check_place : Fn := runN 1 1 (B_check_place)
abbrev s_thue_prefix : Stmt := topS 26
abbrev N_thue_prefix : List Str := ["length"]
theorem sc_thue_prefix : FnScope N_thue_prefix ["length"] (defScope s_thue_prefix) := ⟨rfl, rfl, rfl, by decide +kernel, rfl, by decide +kernel, by decide +kernel⟩
def B_thue_prefix : NS := nSeq (nDrop (nCall F_check_size (nPick [.inl 0, .inr 0, .inr 1] [.int (200), .int (0)] (nApp 1 0 (up (aCons (bFz (bV 0)) (aNil))) (up aNil)))))
    (up (sRet (bCall F_part_of (aCons (bFz (bC (.int 0))) (aCons (bFz (bV 0)) (aNil))))))
def F_thue_prefix : Fn := runN 1 1 (B_thue_prefix)
abbrev s_thue_letter : Stmt := topS 27
abbrev N_thue_letter : List Str := ["index"]
theorem sc_thue_letter : FnScope N_thue_letter ["index"] (defScope s_thue_letter) := ⟨rfl, rfl, rfl, by decide +kernel, rfl, by decide +kernel, by decide +kernel⟩
def B_thue_letter : NS := nSeq (nDrop (nCall F_check_place (nPick [.inl 0] [] (nApp 1 0 (up (aCons (bFz (bV 0)) (aNil))) (up aNil)))))
    (up (sRet (bCall F_letter_of (aCons (bFz (bV 0)) (aNil)))))
def F_thue_letter : Fn := runN 1 1 (B_thue_letter)
abbrev s_thue_part : Stmt := topS 28
abbrev N_thue_part : List Str := ["index", "length"]
theorem sc_thue_part : FnScope N_thue_part ["index", "length"] (defScope s_thue_part) := ⟨rfl, rfl, rfl, by decide +kernel, rfl, by decide +kernel, by decide +kernel⟩
def B_thue_part : NS := nSeq (nDrop (nCall F_check_place (nPick [.inl 0] [] (nApp 1 0 (up (aCons (bFz (bV 0)) (aNil))) (up aNil)))))
    (nSeq (nDrop (nCall F_check_size (nPick [.inl 0, .inr 0, .inr 1] [.int (200), .int (0)] (nApp 1 0 (up (aCons (bFz (bV 1)) (aNil))) (up aNil)))))
    (up (sRet (bCall F_part_of (aCons (bFz (bV 0)) (aCons (bFz (bV 1)) (aNil)))))))
def F_thue_part : Fn := runN 2 2 (B_thue_part)
abbrev s_thue_counts : Stmt := topS 29
abbrev N_thue_counts : List Str := ["index", "last"]
theorem sc_thue_counts : FnScope N_thue_counts ["index"] (defScope s_thue_counts) := ⟨rfl, rfl, rfl, by decide +kernel, rfl, by decide +kernel, by decide +kernel⟩
def B_thue_counts : NS := nSeq (nDrop (nCall F_check_place (nPick [.inl 0] [] (nApp 1 0 (up (aCons (bFz (bV 0)) (aNil))) (up aNil)))))
    (up (sSeq (sSet 1 (bFz (bIf (bT (bOp eqD (bOp modD (bV 0) (bC (.int 2))) (bC (.int 1)))) (bCall F_letter_of (aCons (bFz (bOp subD (bV 0) (bC (.int 1)))) (aNil))) (bC (.str [])))))
    (sRet (bTupE (aCons (bFz (bOp addD (bOp fdivD (bV 0) (bC (.int 2))) (bFn intD (aCons (bOp eqD (bV 1) (bC (.str [97]))) (aNil))))) (aCons (bFz (bOp addD (bOp fdivD (bV 0) (bC (.int 2))) (bFn intD (aCons (bOp eqD (bV 1) (bC (.str [98]))) (aNil))))) (aNil)))))))
def F_thue_counts : Fn := runN 2 1 (B_thue_counts)
abbrev s_check_free : Stmt := topS 30
abbrev N_check_free : List Str := ["word", "place"]
theorem sc_check_free : FnScope N_check_free ["word"] (defScope s_check_free) := ⟨rfl, rfl, rfl, by decide +kernel, rfl, by decide +kernel, by decide +kernel⟩
def B_check_free : NS := nSeq (up (sSet 1 (bCall F_overlap_place (aCons (bFz (bV 0)) (aNil)))))
    (nIf (up (bT (bOp isnD (bV 1) (bC .non)))) (nRaise "HasOverlap" ["end", "start"] (up (aCons (bFz (bOp ixD (bV 1) (bC (.int 0)))) (aCons (bFz (bOp ixD (bV 1) (bC (.int 1)))) (aNil))))) (up sNx))
def F_check_free : Fn := runN 2 1 (B_check_free)
abbrev s_halved : Stmt := topS 31
abbrev N_halved : List Str := ["word", "pairs", "at", "pair"]
theorem sc_halved : FnScope N_halved ["word"] (defScope s_halved) := ⟨rfl, rfl, rfl, by decide +kernel, rfl, by decide +kernel, by decide +kernel⟩
def B_halved : Sx := sSeq (sSet 1 (bComp (iRangeU (bC (.int 0)) (bFn lenD (aCons (bV 0) (aNil))) (bC (.int 2))) [2] (bName 2) (bYes) (bSl (bV 0) (oSome (bV 2)) (oSome (bOp addD (bV 2) (bC (.int 2)))))))
    (sRet (bIf (bT (bFn allD (aCons (bComp (iLst (bV 1)) [3] (bName 3) (bYes) (bOp inD (bV 3) (bTupE (aCons (bFz (bC (.str [97, 98]))) (aCons (bFz (bC (.str [98, 97]))) (aNil)))))) (aNil)))) (bMt joinD (bC (.str [])) (aCons (bComp (iLst (bV 1)) [3] (bName 3) (bYes) (bOp ixD (bV 3) (bC (.int 0)))) (aNil))) (bC .non)))
def F_halved : Fx := runB 4 1 B_halved
abbrev s_peeled : Stmt := topS 32
abbrev N_peeled : List Str := ["word", "first", "last", "inner"]
theorem sc_peeled : FnScope N_peeled ["word"] (defScope s_peeled) := ⟨rfl, rfl, rfl, by decide +kernel, rfl, by decide +kernel, by decide +kernel⟩
def B_peeled : NS := nSeq (nDrop (nCall F_check_word (nPick [.inl 0, .inl 1, .inr 1] [.int (4), .int (200)] (nApp 2 0 (up (aCons (bFz (bV 0)) (aCons (bFz (bC (.int 2))) (aNil)))) (up aNil)))))
    (nSeq (nIf (up (bT (bOp ltD (bFn lenD (aCons (bV 0) (aNil))) (bC (.int 7))))) (nRaise "TooShort" ["word"] (up (aCons (bFz (bV 0)) (aNil)))) (up sNx))
    (nSeq (nDrop (nCall F_check_free (nPick [.inl 0] [] (nApp 1 0 (up (aCons (bFz (bV 0)) (aNil))) (up aNil)))))
    (up (sSeq (sFor (iTpl (bC (.tup [(.str []), (.str [97]), (.str [98]), (.str [97, 97]), (.str [98, 98])]))) (bName 1) (sFor (iTpl (bC (.tup [(.str []), (.str [97]), (.str [98]), (.str [97, 97]), (.str [98, 98])]))) (bName 2) (sSeq (sSet 3 (bSl (bV 0) (oSome (bFn lenD (aCons (bV 1) (aNil)))) (oSome (bOp subD (bFn lenD (aCons (bV 0) (aNil))) (bFn lenD (aCons (bV 2) (aNil)))))))
    (sIf (bAnd (bT (bMt startsD (bV 0) (aCons (bV 1) (aNil)))) (bAnd (bT (bMt endsD (bV 0) (aCons (bV 2) (aNil)))) (bT (bOp isnD (bCall F_halved (aCons (bFz (bV 3)) (aNil))) (bC .non))))) (sRet (bTupE (aCons (bFz (bV 1)) (aCons (bFz (bCall F_halved (aCons (bFz (bV 3)) (aNil)))) (aCons (bFz (bV 2)) (aNil)))))) (sNx)))))
    (sRet (bC .non))))))
def F_peeled : Fn := runN 4 1 (B_peeled)
abbrev s__law_cell : Stmt := topS 34
abbrev N__law_cell : List Str := ["script", "k"]
theorem sc__law_cell : FnScope N__law_cell ["script", "k"] (defScope s__law_cell) := ⟨rfl, rfl, rfl, by decide +kernel, rfl, by decide +kernel, by decide +kernel⟩
def B__law_cell : Sx := sRet (bIf (bT (bOp ltD (bV 1) (bFn lenD (aCons (bV 0) (aNil))))) (bOp ixD (bV 0) (bV 1)) (bOp addD (bOp mulD (bC (.int 7477)) (bV 1)) (bOp modD (bFn intD (aCons (bFn sumD (aCons (bSl (bV 0) (oNone) (oSome (bC (.int 1)))) (aNil))) (aNil))) (bC (.int 1000003)))))
def F__law_cell : Fx := runB 2 2 B__law_cell
abbrev s__law_box : Stmt := topS 35
abbrev N__law_box : List Str := ["great"]
theorem sc__law_box : FnScope N__law_box ["great"] (defScope s__law_box) := ⟨rfl, rfl, rfl, by decide +kernel, rfl, by decide +kernel, by decide +kernel⟩
def B__law_box : Sx := sRet (bLstE (aCons (bFz (bFn absD (aCons (bV 0) (aNil)))) (aCons (bFz (bOp geD (bFn absD (aCons (bV 0) (aNil))) (bOp powD (bC (.int 10)) (bC (.int 18))))) (aCons (bFz (bOp modD (bFn intD (aCons (bFn absD (aCons (bV 0) (aNil))) (aNil))) (bC (.int 2147483629)))) (aCons (bFz (bC (.int 0))) (aNil))))))
def F__law_box : Fx := runB 1 1 B__law_box
abbrev s__law_take : Stmt := topS 36
abbrev N__law_take : List Str := ["box", "many", "digit", "mixed"]
theorem sc__law_take : FnScope N__law_take ["box", "many"] (defScope s__law_take) := ⟨rfl, rfl, rfl, by decide +kernel, rfl, by decide +kernel, by decide +kernel⟩
def B__law_take : Sx := sSeq (sIf (bAnd (bT (bOp ixD (bV 0) (bC (.int 1)))) (bT (bOp gtD (bOp ixD (bV 0) (bC (.int 0))) (bC (.int 0))))) (sSeq (sSet 2 (bOp modD (bFn intD (aCons (bOp ixD (bV 0) (bC (.int 0))) (aNil))) (bV 1)))
    (sSeq (sPut 0 (bC (.int 0)) (bOp fdivD (bOp ixD (bV 0) (bC (.int 0))) (bV 1)))
    (sRet (bV 2)))) (sNx))
    (sSeq (sPut 0 (bC (.int 3)) (bOp addD (bOp ixD (bV 0) (bC (.int 3))) (bC (.int 1))))
    (sSeq (sSet 3 (bOp modD (bFn intD (aCons (bOp powD (bOp addD (bOp addD (bOp ixD (bV 0) (bC (.int 2))) (bOp mulD (bC (.int 15485867)) (bOp ixD (bV 0) (bC (.int 3))))) (bC (.int 179424691))) (bC (.int 5))) (aNil))) (bC (.int 2147483647))))
    (sRet (bOp modD (bFn intD (aCons (bOp fdivD (bOp modD (bFn intD (aCons (bOp powD (bOp addD (bOp mulD (bV 3) (bC (.int 48271))) (bOp mulD (bC (.int 104743)) (bOp ixD (bV 0) (bC (.int 3))))) (bC (.int 3))) (aNil))) (bC (.int 2147483587))) (bC (.int 64))) (aNil))) (bV 1)))))
def F__law_take : Fx := runB 4 2 B__law_take
abbrev s__law_same : Stmt := topS 37
abbrev N__law_same : List Str := ["told", "due", "k"]
theorem sc__law_same : FnScope N__law_same ["told", "due"] (defScope s__law_same) := ⟨rfl, rfl, rfl, by decide +kernel, rfl, by decide +kernel, by decide +kernel⟩
def B__law_same (rec : Fx) : Sx := sSeq (sIf (bOr (bT (bOp isD (bV 1) (bC .non))) (bT (bFn (isiD "bool") (aCons (bV 1) (aCons (bC (.ptr (.ty "bool"))) aNil))))) (sRet (bIf (bT (bOp isD (bV 1) (bC .non))) (bOp isD (bV 0) (bC .non)) (bAndV (bFn (isiD "bool") (aCons (bV 0) (aCons (bC (.ptr (.ty "bool"))) aNil))) (bOp eqD (bOp isD (bV 0) (bC (.bl true))) (bOp isD (bV 1) (bC (.bl true))))))) (sNx))
    (sSeq (sIf (bT (bFn (isiD "int") (aCons (bV 1) (aCons (bC (.ptr (.ty "int"))) aNil)))) (sRet (bAndV (bFn (isiD "int") (aCons (bV 0) (aCons (bC (.ptr (.ty "int"))) aNil))) (bAndV (bNotV (bFn (isiD "bool") (aCons (bV 0) (aCons (bC (.ptr (.ty "bool"))) aNil)))) (bOp eqD (bOp subD (bFn intD (aCons (bV 0) (aNil))) (bV 1)) (bC (.int 0)))))) (sNx))
    (sSeq (sIf (bT (bFn (isiD "str") (aCons (bV 1) (aCons (bC (.ptr (.ty "str"))) aNil)))) (sRet (bAndV (bFn (isiD "str") (aCons (bV 0) (aCons (bC (.ptr (.ty "str"))) aNil))) (bAndV (bOp eqD (bFn lenD (aCons (bV 0) (aNil))) (bFn lenD (aCons (bV 1) (aNil)))) (bOp eqD (bComp (iRange1 (bFn lenD (aCons (bV 1) (aNil)))) [2] (bName 2) (bT (bOp neD (bSl (bV 0) (oSome (bV 2)) (oSome (bOp addD (bV 2) (bC (.int 1))))) (bOp ixD (bV 1) (bV 2)))) (bV 2)) (bLstE (aNil)))))) (sNx))
    (sSeq (sIf (bT (bFn (isiD "dict") (aCons (bV 1) (aCons (bC (.ptr (.ty "dict"))) aNil)))) (sRet (bAndV (bFn (isiD "dict") (aCons (bV 0) (aCons (bC (.ptr (.ty "dict"))) aNil))) (bCall rec (aCons (bFz (bItems (bV 0))) (aCons (bFz (bItems (bV 1))) (aNil)))))) (sNx))
    (sSeq (sIf (bOr (bT (bOp neD (bFn (isiD "list") (aCons (bV 0) (aCons (bC (.ptr (.ty "list"))) aNil))) (bFn (isiD "list") (aCons (bV 1) (aCons (bC (.ptr (.ty "list"))) aNil))))) (bT (bOp neD (bFn (isiD "tuple") (aCons (bV 0) (aCons (bC (.ptr (.ty "tuple"))) aNil))) (bFn (isiD "tuple") (aCons (bV 1) (aCons (bC (.ptr (.ty "tuple"))) aNil)))))) (sRet (bC (.bl false))) (sNx))
    (sSeq (sIf (bOr (bNot (bT (bIsi2 "list" "tuple" (bV 0)))) (bT (bOp neD (bFn lenD (aCons (bV 0) (aNil))) (bFn lenD (aCons (bV 1) (aNil)))))) (sRet (bC (.bl false))) (sNx))
    (sRet (bOp eqD (bComp (iRange1 (bFn lenD (aCons (bV 1) (aNil)))) [2] (bName 2) (bNot (bT (bCall rec (aCons (bFz (bOp ixD (bV 0) (bV 2))) (aCons (bFz (bOp ixD (bV 1) (bV 2))) (aNil)))))) (bV 2)) (bLstE (aNil)))))))))
def F__law_same : Nat → Fx
  | 0 => F_none
  | n + 1 => runB 3 2 (B__law_same (F__law_same n))
abbrev s__law_near : Stmt := topS 38
abbrev N__law_near : List Str := ["box", "word", "letters", "at", "way", "letter"]
theorem sc__law_near : FnScope N__law_near ["box", "word", "letters"] (defScope s__law_near) := ⟨rfl, rfl, rfl, by decide +kernel, rfl, by decide +kernel, by decide +kernel⟩
def B__law_near : Sx := sSeq (sParN [3, 4, 5] (aoCons (bCall F__law_take (aCons (bV 0) (aCons (bFz (bOp addD (bFn lenD (aCons (bV 1) (aNil))) (bC (.int 1)))) (aNil)))) (aoCons (bCall F__law_take (aCons (bV 0) (aCons (bFz (bC (.int 6))) (aNil)))) (aoCons (bOp ixD (bC (.str [97, 98, 99, 100])) (bCall F__law_take (aCons (bV 0) (aCons (bFz (bV 2)) (aNil))))) (aNil)))))
    (sSeq (sIf (bT (bOp eqD (bV 4) (bC (.int 0)))) (sRet (bOp addD (bOp addD (bSl (bV 1) (oNone) (oSome (bV 3))) (bV 5)) (bSl (bV 1) (oSome (bOp addD (bV 3) (bC (.int 1)))) (oNone)))) (sNx))
    (sSeq (sIf (bOr (bT (bOp eqD (bV 4) (bC (.int 1)))) (bT (bOp eqD (bV 1) (bC (.str []))))) (sRet (bOp addD (bOp addD (bSl (bV 1) (oNone) (oSome (bV 3))) (bV 5)) (bSl (bV 1) (oSome (bV 3)) (oNone)))) (sNx))
    (sSeq (sIf (bT (bOp eqD (bV 4) (bC (.int 2)))) (sRet (bOp addD (bSl (bV 1) (oNone) (oSome (bV 3))) (bSl (bV 1) (oSome (bOp addD (bV 3) (bC (.int 1)))) (oNone)))) (sNx))
    (sRet (bIf (bT (bOp eqD (bV 4) (bC (.int 3)))) (bOp addD (bOp addD (bOp addD (bSl (bV 1) (oNone) (oSome (bV 3))) (bSl (bV 1) (oSome (bOp addD (bV 3) (bC (.int 1)))) (oSome (bOp addD (bV 3) (bC (.int 2)))))) (bSl (bV 1) (oSome (bV 3)) (oSome (bOp addD (bV 3) (bC (.int 1)))))) (bSl (bV 1) (oSome (bOp addD (bV 3) (bC (.int 2)))) (oNone))) (bV 1))))))
def F__law_near : Fx := runB 6 3 B__law_near
abbrev s__law_odd_word : Stmt := topS 39
abbrev N__law_odd_word : List Str := ["box"]
theorem sc__law_odd_word : FnScope N__law_odd_word ["box"] (defScope s__law_odd_word) := ⟨rfl, rfl, rfl, by decide +kernel, rfl, by decide +kernel, by decide +kernel⟩
def B__law_odd_word : Sx := sRet (bOp ixD (bLstE (aCons (bFz (bC .non)) (aCons (bFz (bC (.int 5))) (aCons (bFz (bC (.bl true))) (aCons (bFz (bC (.str [97, 98, 101]))) (aCons (bFz (bC (.str [65]))) (aCons (bFz (bLstE (aCons (bFz (bC (.str [97]))) (aNil)))) (aCons (bFz (bTupE (aCons (bFz (bC (.str [97]))) (aNil)))) (aCons (bFz (bC (.dct [] []))) (aCons (bFz (bC (.str [97, 32, 98]))) (aCons (bFz (bOp mulS (bC (.str [97])) (bC (.int 201)))) (aNil)))))))))))) (bCall F__law_take (aCons (bV 0) (aCons (bFz (bC (.int 10))) (aNil)))))
def F__law_odd_word : Fx := runB 1 1 B__law_odd_word
abbrev s__law_odd : Stmt := topS 40
abbrev N__law_odd : List Str := ["index", "count", "bit"]
theorem sc__law_odd : FnScope N__law_odd ["index"] (defScope s__law_odd) := ⟨rfl, rfl, rfl, by decide +kernel, rfl, by decide +kernel, by decide +kernel⟩
def B__law_odd : Sx := sSeq (sSet 1 (bC (.int 0)))
    (sSeq (sFor (iRange1 (bC (.int 104))) (bName 2) (sSet 1 (bOp addD (bV 1) (bOp andD (bOp shrD (bV 0) (bV 2)) (bC (.int 1))))))
    (sRet (bOp eqD (bOp andD (bV 1) (bC (.int 1))) (bC (.int 1)))))
def F__law_odd : Fx := runB 3 1 B__law_odd
abbrev s__law_part : Stmt := topS 41
abbrev N__law_part : List Str := ["index", "size", "k"]
theorem sc__law_part : FnScope N__law_part ["index", "size"] (defScope s__law_part) := ⟨rfl, rfl, rfl, by decide +kernel, rfl, by decide +kernel, by decide +kernel⟩
def B__law_part : Sx := sRet (bMt joinD (bC (.str [])) (aCons (bComp (iRange1 (bV 1)) [2] (bName 2) (bYes) (bOp ixD (bC (.str [97, 98])) (bFn intD (aCons (bCall F__law_odd (aCons (bFz (bOp addD (bV 0) (bV 2))) (aNil))) (aNil))))) (aNil)))
def F__law_part : Fx := runB 3 2 B__law_part
abbrev s__law_counts : Stmt := topS 42
abbrev N__law_counts : List Str := ["index", "half", "more"]
theorem sc__law_counts : FnScope N__law_counts ["index"] (defScope s__law_counts) := ⟨rfl, rfl, rfl, by decide +kernel, rfl, by decide +kernel, by decide +kernel⟩
def B__law_counts : Sx := sSeq (sSet 1 (bOp fdivD (bV 0) (bC (.int 2))))
    (sSeq (sSet 2 (bFz (bIf (bAnd (bTr (bOp andD (bV 0) (bC (.int 1)))) (bT (bCall F__law_odd (aCons (bFz (bOp subD (bV 0) (bC (.int 1)))) (aNil))))) (bC (.int 1)) (bC (.int 0)))))
    (sRet (bTupE (aCons (bFz (bOp subD (bOp subD (bV 0) (bV 1)) (bV 2))) (aCons (bFz (bOp addD (bV 1) (bV 2))) (aNil))))))
def F__law_counts : Fx := runB 3 1 B__law_counts
abbrev s__law_asked : Stmt := topS 43
abbrev N__law_asked : List Str := ["word", "first", "second", "by_name", "ask", "e"]
theorem sc__law_asked : FnScope N__law_asked ["word", "first", "second", "by_name"] (defScope s__law_asked) := ⟨rfl, rfl, rfl, by decide +kernel, rfl, by decide +kernel, by decide +kernel⟩
def B__law_asked (mg : Str → Option Value) : NS := nTry ecs (nSeq (nIf (up (bT (bOp eqD (bV 0) (bC (.str [112, 97, 114, 116]))))) (nRet (nLst (nCons (up (bFz (bC (.str [116, 111, 108, 100])))) (nCons (nIfE (up (bT (bV 3))) (nCall F_thue_part (nPick [.inl 1, .inl 0] [] (nApp 0 2 (up aNil) (nCons (up (bFz (bV 2))) (nCons (up (bFz (bV 1))) (up aNil)))))) (nCall F_thue_part (nPick [.inl 0, .inl 1] [] (nApp 2 0 (up (aCons (bFz (bV 1)) (aCons (bFz (bV 2)) (aNil)))) (up aNil))))) (up (aNil)))))) (up sNx))
    (nSeq (nIf (up (bT (bOp eqD (bV 0) (bC (.str [112, 114, 101, 102, 105, 120]))))) (nRet (nLst (nCons (up (bFz (bC (.str [116, 111, 108, 100])))) (nCons (nIfE (up (bT (bV 3))) (nCall F_thue_prefix (nPick [.inl 0] [] (nApp 0 1 (up aNil) (nCons (up (bFz (bV 2))) (up aNil))))) (nCall F_thue_prefix (nPick [.inl 0] [] (nApp 1 0 (up (aCons (bFz (bV 2)) (aNil))) (up aNil))))) (up (aNil)))))) (up sNx))
    (nSeq (up (sSet 4 (bFz (bIf (bT (bOp eqD (bV 0) (bC (.str [108, 101, 116, 116, 101, 114])))) (bC (.ptr (gRef mg "thue_letter"))) (bC (.ptr (gRef mg "thue_counts")))))))
    (nRet (nLst (nCons (up (bFz (bC (.str [116, 111, 108, 100])))) (nCons (nIfE (up (bT (bV 3))) (nOr (nIs mg 4 "thue_letter" (nCall F_thue_letter (nPick [.inl 0] [] (nApp 0 1 (up aNil) (nCons (up (bFz (bV 1))) (up aNil)))))) (nIs mg 4 "thue_counts" (nCall F_thue_counts (nPick [.inl 0] [] (nApp 0 1 (up aNil) (nCons (up (bFz (bV 1))) (up aNil))))))) (nOr (nIs mg 4 "thue_letter" (nCall F_thue_letter (nPick [.inl 0] [] (nApp 1 0 (up (aCons (bFz (bV 1)) (aNil))) (up aNil))))) (nIs mg 4 "thue_counts" (nCall F_thue_counts (nPick [.inl 0] [] (nApp 1 0 (up (aCons (bFz (bV 1)) (aNil))) (up aNil))))))) (up (aNil)))))))))
    (("InvalidIndex", some 5, fun a dd => sRet (bLstE (aCons (bFz (bC (.str [105, 110, 100, 101, 120]))) (aCons (bFz (bGiv a dd "given" (bV 5))) (aNil))))) :: ("InvalidLength", some 5, fun a dd => sRet (bLstE (aCons (bFz (bC (.str [108, 101, 110, 103, 116, 104]))) (aCons (bFz (bGiv a dd "given" (bV 5))) (aNil))))) :: [])
abbrev s__law_word_right : Stmt := topS 44
abbrev N__law_word_right : List Str := ["box", "great", "by_name", "turn", "way", "size", "index", "found", "odd", "none"]
theorem sc__law_word_right : FnScope N__law_word_right ["box", "great", "by_name"] (defScope s__law_word_right) := ⟨rfl, rfl, rfl, by decide +kernel, rfl, by decide +kernel, by decide +kernel⟩
def B__law_word_right : Sx := sSeq (sFor (iRange1 (bC (.int 4))) (bName 3) (sSeq (sParN [4, 5] (aoCons (bCall F__law_take (aCons (bV 0) (aCons (bFz (bC (.int 5))) (aNil)))) (aoCons (bFz (bIf (bAnd (bT (bV 1)) (bT (bOp eqD (bV 3) (bC (.int 0))))) (bC (.int 200)) (bCall F__law_take (aCons (bV 0) (aCons (bFz (bC (.int 40))) (aNil)))))) (aNil))))
    (sSeq (sSet 6 (bOp ixD (bLstE (aCons (bFz (bCall F__law_take (aCons (bV 0) (aCons (bFz (bC (.int 100))) (aNil))))) (aCons (bFz (bOp subD (bOp addD (bOp shlD (bC (.int 1)) (bCall F__law_take (aCons (bV 0) (aCons (bFz (bC (.int 99))) (aNil))))) (bCall F__law_take (aCons (bV 0) (aCons (bFz (bC (.int 9))) (aNil))))) (bC (.int 4)))) (aCons (bFz (bOp subD (bOp powD (bC (.int 10)) (bC (.int 30))) (bCall F__law_take (aCons (bV 0) (aCons (bFz (bC (.int 3))) (aNil)))))) (aCons (bFz (bOp modD (bFn intD (aCons (bOp mulD (bOp mulD (bC (.int 48271)) (bCall F__law_take (aCons (bV 0) (aCons (bFz (bOp powD (bC (.int 10)) (bC (.int 9)))) (aNil))))) (bOp powD (bC (.int 10)) (bC (.int 14)))) (aNil))) (bOp powD (bC (.int 10)) (bC (.int 30))))) (aCons (bFz (bC (.int 0))) (aNil))))))) (bV 4)))
    (sSeq (sSet 6 (bFn maxD (aCons (bC (.int 0)) (aCons (bV 6) (aNil)))))
    (sSeq (sIf (bNot (bT (bCall (F__law_same 5) (aCons (bFz (bCall F__law_asked (aCons (bFz (bC (.str [112, 97, 114, 116]))) (aCons (bFz (bV 6)) (aCons (bFz (bV 5)) (aCons (bFz (bV 2)) (aNil))))))) (aCons (bFz (bLstE (aCons (bFz (bC (.str [116, 111, 108, 100]))) (aCons (bFz (bCall F__law_part (aCons (bFz (bV 6)) (aCons (bFz (bV 5)) (aNil))))) (aNil))))) (aNil)))))) (sRet (bC (.bl false))) (sNx))
    (sSeq (sSet 7 (bLstE (aCons (bFz (bCall F__law_asked (aCons (bFz (bC (.str [112, 114, 101, 102, 105, 120]))) (aCons (bFz (bC .non)) (aCons (bFz (bV 5)) (aCons (bFz (bV 2)) (aNil))))))) (aCons (bFz (bCall F__law_asked (aCons (bFz (bC (.str [108, 101, 116, 116, 101, 114]))) (aCons (bFz (bV 6)) (aCons (bFz (bC .non)) (aCons (bFz (bV 2)) (aNil))))))) (aCons (bFz (bCall F__law_asked (aCons (bFz (bC (.str [99, 111, 117, 110, 116, 115]))) (aCons (bFz (bV 6)) (aCons (bFz (bC .non)) (aCons (bFz (bNotV (bV 2))) (aNil))))))) (aNil))))))
    (sSeq (sIf (bNot (bT (bCall (F__law_same 5) (aCons (bFz (bV 7)) (aCons (bFz (bLstE (aCons (bFz (bLstE (aCons (bFz (bC (.str [116, 111, 108, 100]))) (aCons (bFz (bCall F__law_part (aCons (bFz (bC (.int 0))) (aCons (bFz (bV 5)) (aNil))))) (aNil))))) (aCons (bFz (bLstE (aCons (bFz (bC (.str [116, 111, 108, 100]))) (aCons (bFz (bCall F__law_part (aCons (bFz (bV 6)) (aCons (bFz (bC (.int 1))) (aNil))))) (aNil))))) (aCons (bFz (bLstE (aCons (bFz (bC (.str [116, 111, 108, 100]))) (aCons (bFz (bCall F__law_counts (aCons (bFz (bV 6)) (aNil)))) (aNil))))) (aNil)))))) (aNil)))))) (sRet (bC (.bl false))) (sNx))
    (sSet 2 (bNotV (bV 2))))))))))
    (sSeq (sParN [8, 9] (aoCons (bOp ixD (bLstE (aCons (bFz (bC .non)) (aCons (bFz (bUn negD (bC (.int 1)))) (aCons (bFz (bC (.int 201))) (aCons (bFz (bC (.bl true))) (aCons (bFz (bC (.str [51]))) (aCons (bFz (bLstE (aCons (bFz (bC (.int 3))) (aNil)))) (aNil)))))))) (bCall F__law_take (aCons (bV 0) (aCons (bFz (bC (.int 6))) (aNil))))) (aoCons (bOp ixD (bLstE (aCons (bFz (bC .non)) (aCons (bFz (bUn negD (bC (.int 1)))) (aCons (bFz (bOp addD (bOp powD (bC (.int 10)) (bC (.int 30))) (bC (.int 1)))) (aCons (bFz (bC (.bl true))) (aCons (bFz (bC (.str [51]))) (aCons (bFz (bLstE (aCons (bFz (bC (.int 3))) (aNil)))) (aNil)))))))) (bCall F__law_take (aCons (bV 0) (aCons (bFz (bC (.int 6))) (aNil))))) (aNil))))
    (sSeq (sSet 7 (bLstE (aCons (bFz (bCall F__law_asked (aCons (bFz (bC (.str [112, 114, 101, 102, 105, 120]))) (aCons (bFz (bC .non)) (aCons (bFz (bV 8)) (aCons (bFz (bV 2)) (aNil))))))) (aCons (bFz (bCall F__law_asked (aCons (bFz (bC (.str [112, 97, 114, 116]))) (aCons (bFz (bV 9)) (aCons (bFz (bV 8)) (aCons (bFz (bV 2)) (aNil))))))) (aCons (bFz (bCall F__law_asked (aCons (bFz (bC (.str [112, 97, 114, 116]))) (aCons (bFz (bC (.int 3))) (aCons (bFz (bV 8)) (aCons (bFz (bNotV (bV 2))) (aNil))))))) (aCons (bFz (bCall F__law_asked (aCons (bFz (bC (.str [108, 101, 116, 116, 101, 114]))) (aCons (bFz (bV 9)) (aCons (bFz (bC .non)) (aCons (bFz (bV 2)) (aNil))))))) (aCons (bFz (bCall F__law_asked (aCons (bFz (bC (.str [99, 111, 117, 110, 116, 115]))) (aCons (bFz (bV 9)) (aCons (bFz (bC .non)) (aCons (bFz (bV 2)) (aNil))))))) (aNil))))))))
    (sRet (bCall (F__law_same 5) (aCons (bFz (bV 7)) (aCons (bFz (bLstE (aCons (bFz (bLstE (aCons (bFz (bC (.str [108, 101, 110, 103, 116, 104]))) (aCons (bFz (bV 8)) (aNil))))) (aCons (bFz (bLstE (aCons (bFz (bC (.str [105, 110, 100, 101, 120]))) (aCons (bFz (bV 9)) (aNil))))) (aCons (bFz (bLstE (aCons (bFz (bC (.str [108, 101, 110, 103, 116, 104]))) (aCons (bFz (bV 8)) (aNil))))) (aCons (bFz (bLstE (aCons (bFz (bC (.str [105, 110, 100, 101, 120]))) (aCons (bFz (bV 9)) (aNil))))) (aCons (bFz (bLstE (aCons (bFz (bC (.str [105, 110, 100, 101, 120]))) (aCons (bFz (bV 9)) (aNil))))) (aNil)))))))) (aNil)))))))
def F__law_word_right : Fx := runB 10 3 B__law_word_right
abbrev s__law_overlap : Stmt := topS 45
abbrev N__law_overlap : List Str := ["word", "end", "starts", "size", "start"]
theorem sc__law_overlap : FnScope N__law_overlap ["word"] (defScope s__law_overlap) := ⟨rfl, rfl, rfl, by decide +kernel, rfl, by decide +kernel, by decide +kernel⟩
def B__law_overlap : Sx := sSeq (sFor (iRange2 (bC (.int 3)) (bOp addD (bFn lenD (aCons (bV 0) (aNil))) (bC (.int 1)))) (bName 1) (sSeq (sSet 2 (bLstE (aNil)))
    (sSeq (sFor (iRange2 (bC (.int 1)) (bOp addD (bOp fdivD (bOp subD (bV 1) (bC (.int 1))) (bC (.int 2))) (bC (.int 1)))) (bName 3) (sSeq (sSet 4 (bOp subD (bOp subD (bV 1) (bOp mulD (bC (.int 2)) (bV 3))) (bC (.int 1))))
    (sIf (bT (bOp eqD (bSl (bV 0) (oSome (bV 4)) (oSome (bOp subD (bV 1) (bV 3)))) (bSl (bV 0) (oSome (bOp addD (bV 4) (bV 3))) (oSome (bV 1))))) (sDrop (bMu 2 appendD (aCons (bFz (bV 4)) (aNil)))) (sNx))))
    (sIf (bT (bOp neD (bV 2) (bLstE (aNil)))) (sRet (bTupE (aCons (bFz (bV 1)) (aCons (bFz (bFn minD (aCons (bV 2) (aNil)))) (aNil))))) (sNx)))))
    (sRet (bC .non))
def F__law_overlap : Fx := runB 5 1 B__law_overlap
abbrev s__law_mu : Stmt := topS 46
abbrev N__law_mu : List Str := ["word", "letter"]
theorem sc__law_mu : FnScope N__law_mu ["word"] (defScope s__law_mu) := ⟨rfl, rfl, rfl, by decide +kernel, rfl, by decide +kernel, by decide +kernel⟩
def B__law_mu : Sx := sRet (bMt joinD (bC (.str [])) (aCons (bComp (iTxt (bV 0)) [1] (bName 1) (bYes) (bOp ixD (bLstE (aCons (bFz (bC (.str [97, 98]))) (aCons (bFz (bC (.str [98, 97]))) (aNil)))) (bMt sindexD (bC (.str [97, 98])) (aCons (bV 1) (aNil))))) (aNil)))
def F__law_mu : Fx := runB 2 1 B__law_mu
abbrev s__law_drawn_free : Stmt := topS 47
abbrev N__law_drawn_free : List Str := ["box", "way", "word", "turn"]
theorem sc__law_drawn_free : FnScope N__law_drawn_free ["box"] (defScope s__law_drawn_free) := ⟨rfl, rfl, rfl, by decide +kernel, rfl, by decide +kernel, by decide +kernel⟩
def B__law_drawn_free : Sx := sSeq (sSet 1 (bCall F__law_take (aCons (bV 0) (aCons (bFz (bC (.int 6))) (aNil)))))
    (sSeq (sIf (bT (bOp ltD (bV 1) (bC (.int 2)))) (sRet (bCall F__law_part (aCons (bFz (bCall F__law_take (aCons (bV 0) (aCons (bFz (bC (.int 200))) (aNil))))) (aCons (bFz (bOp addD (bC (.int 4)) (bCall F__law_take (aCons (bV 0) (aCons (bFz (bOp ixD (bLstE (aCons (bFz (bC (.int 10))) (aCons (bFz (bC (.int 40))) (aNil)))) (bCall F__law_take (aCons (bV 0) (aCons (bFz (bC (.int 2))) (aNil)))))) (aNil)))))) (aNil))))) (sNx))
    (sSeq (sSet 2 (bOp ixD (bLstE (aCons (bFz (bC (.str [97, 97, 98]))) (aCons (bFz (bC (.str [97, 98, 97, 97, 98]))) (aCons (bFz (bC (.str [97, 97, 98, 97, 97, 98]))) (aCons (bFz (bC (.str [97, 98, 98, 97]))) (aCons (bFz (bC (.str [98, 98]))) (aCons (bFz (bC (.str [97, 97, 98, 98]))) (aCons (bFz (bC (.str [97, 98, 98, 97, 97, 98]))) (aCons (bFz (bC (.str [98, 97, 97, 98, 98, 97]))) (aCons (bFz (bC (.str [97, 97, 98, 98, 97, 97]))) (aCons (bFz (bC (.str [98, 97, 98, 98, 97]))) (aNil)))))))))))) (bCall F__law_take (aCons (bV 0) (aCons (bFz (bC (.int 10))) (aNil))))))
    (sSeq (sFor (iRange1 (bOp addD (bC (.int 1)) (bCall F__law_take (aCons (bV 0) (aCons (bFz (bC (.int 3))) (aNil)))))) (bName 3) (sSeq (sSet 2 (bOp addD (bOp addD (bOp ixD (bLstE (aCons (bFz (bC (.str []))) (aCons (bFz (bC (.str [97]))) (aCons (bFz (bC (.str [98]))) (aCons (bFz (bC (.str [97, 97]))) (aCons (bFz (bC (.str [98, 98]))) (aNil))))))) (bCall F__law_take (aCons (bV 0) (aCons (bFz (bC (.int 5))) (aNil))))) (bCall F__law_mu (aCons (bFz (bV 2)) (aNil)))) (bOp ixD (bLstE (aCons (bFz (bC (.str []))) (aCons (bFz (bC (.str [97]))) (aCons (bFz (bC (.str [98]))) (aCons (bFz (bC (.str [97, 97]))) (aCons (bFz (bC (.str [98, 98]))) (aNil))))))) (bCall F__law_take (aCons (bV 0) (aCons (bFz (bC (.int 5))) (aNil)))))))
    (sIf (bT (bOp isnD (bCall F__law_overlap (aCons (bFz (bV 2)) (aNil))) (bC .non))) (sSet 2 (bCall F__law_mu (aCons (bFz (bC (.str [97, 98, 97, 97, 98]))) (aNil)))) (sNx))))
    (sRet (bIf (bT (bOp eqD (bV 1) (bC (.int 5)))) (bCall F__law_near (aCons (bV 0) (aCons (bFz (bV 2)) (aCons (bFz (bC (.int 2))) (aNil))))) (bV 2))))))
def F__law_drawn_free : Fx := runB 4 1 B__law_drawn_free
abbrev s__law_ways : Stmt := topS 48
abbrev N__law_ways : List Str := ["word", "found", "x", "z", "inner", "pairs", "k", "pair"]
theorem sc__law_ways : FnScope N__law_ways ["word"] (defScope s__law_ways) := ⟨rfl, rfl, rfl, by decide +kernel, rfl, by decide +kernel, by decide +kernel⟩
def B__law_ways : Sx := sSeq (sSet 1 (bLstE (aNil)))
    (sSeq (sFor (iLst (bLstE (aCons (bFz (bC (.str []))) (aCons (bFz (bC (.str [97]))) (aCons (bFz (bC (.str [98]))) (aCons (bFz (bC (.str [97, 97]))) (aCons (bFz (bC (.str [98, 98]))) (aNil)))))))) (bName 2) (sFor (iLst (bLstE (aCons (bFz (bC (.str []))) (aCons (bFz (bC (.str [97]))) (aCons (bFz (bC (.str [98]))) (aCons (bFz (bC (.str [97, 97]))) (aCons (bFz (bC (.str [98, 98]))) (aNil)))))))) (bName 3) (sSeq (sSet 4 (bSl (bV 0) (oSome (bFn lenD (aCons (bV 2) (aNil)))) (oSome (bOp subD (bFn lenD (aCons (bV 0) (aNil))) (bFn lenD (aCons (bV 3) (aNil)))))))
    (sIf (bAnd (bT (bOp leD (bOp addD (bFn lenD (aCons (bV 2) (aNil))) (bFn lenD (aCons (bV 3) (aNil)))) (bFn lenD (aCons (bV 0) (aNil))))) (bAnd (bT (bOp eqD (bOp addD (bOp addD (bV 2) (bV 4)) (bV 3)) (bV 0))) (bT (bOp eqD (bOp andD (bFn lenD (aCons (bV 4) (aNil))) (bC (.int 1))) (bC (.int 0)))))) (sSeq (sSet 5 (bComp (iRangeU (bC (.int 0)) (bFn lenD (aCons (bV 4) (aNil))) (bC (.int 2))) [6] (bName 6) (bYes) (bSl (bV 4) (oSome (bV 6)) (oSome (bOp addD (bV 6) (bC (.int 2)))))))
    (sIf (bT (bOp eqD (bComp (iLst (bV 5)) [7] (bName 7) (bT (bOp ninD (bV 7) (bTupE (aCons (bFz (bC (.str [97, 98]))) (aCons (bFz (bC (.str [98, 97]))) (aNil)))))) (bV 7)) (bLstE (aNil)))) (sDrop (bMu 1 appendD (aCons (bFz (bTupE (aCons (bFz (bV 2)) (aCons (bFz (bMt joinD (bC (.str [])) (aCons (bComp (iLst (bV 5)) [7] (bName 7) (bYes) (bOp ixD (bV 7) (bC (.int 0)))) (aNil)))) (aCons (bFz (bV 3)) (aNil)))))) (aNil)))) (sNx))) (sNx)))))
    (sRet (bV 1)))
def F__law_ways : Fx := runB 8 1 B__law_ways
abbrev s__law_peeled : Stmt := topS 49
abbrev N__law_peeled : List Str := ["word", "by_name", "e"]
theorem sc__law_peeled : FnScope N__law_peeled ["word", "by_name"] (defScope s__law_peeled) := ⟨rfl, rfl, rfl, by decide +kernel, rfl, by decide +kernel, by decide +kernel⟩
def B__law_peeled : NS := nTry ecs (nRet (nLst (nCons (up (bFz (bC (.str [116, 111, 108, 100])))) (nCons (nIfE (up (bT (bV 1))) (nCall F_peeled (nPick [.inl 0] [] (nApp 0 1 (up aNil) (nCons (up (bFz (bV 0))) (up aNil))))) (nCall F_peeled (nPick [.inl 0] [] (nApp 1 0 (up (aCons (bFz (bV 0)) (aNil))) (up aNil))))) (up (aNil))))))
    (("InvalidWord", some 2, fun a dd => sRet (bLstE (aCons (bFz (bC (.str [119, 111, 114, 100]))) (aCons (bFz (bGiv a dd "given" (bV 2))) (aNil))))) :: ("TooShort", some 2, fun a dd => sRet (bLstE (aCons (bFz (bC (.str [115, 104, 111, 114, 116]))) (aCons (bFz (bGiv a dd "word" (bV 2))) (aNil))))) :: ("HasOverlap", some 2, fun a dd => sRet (bLstE (aCons (bFz (bC (.str [111, 118, 101, 114, 108, 97, 112]))) (aCons (bFz (bTupE (aCons (bFz (bGiv a dd "end" (bV 2))) (aCons (bFz (bGiv a dd "start" (bV 2))) (aNil))))) (aNil))))) :: [])
abbrev s__law_peeling_right : Stmt := topS 50
abbrev N__law_peeling_right : List Str := ["box", "by_name", "word", "found", "overlap", "ways"]
theorem sc__law_peeling_right : FnScope N__law_peeling_right ["box", "by_name"] (defScope s__law_peeling_right) := ⟨rfl, rfl, rfl, by decide +kernel, rfl, by decide +kernel, by decide +kernel⟩
def B__law_peeling_right : Sx := sSeq (sSet 2 (bCall F__law_drawn_free (aCons (bV 0) (aNil))))
    (sSeq (sIf (bT (bOp eqD (bCall F__law_take (aCons (bV 0) (aCons (bFz (bC (.int 5))) (aNil)))) (bC (.int 0)))) (sSet 2 (bSl (bV 2) (oNone) (oSome (bCall F__law_take (aCons (bV 0) (aCons (bFz (bC (.int 9))) (aNil))))))) (sNx))
    (sSeq (sParN [3, 4] (aoCons (bCall F__law_peeled (aCons (bFz (bV 2)) (aCons (bFz (bV 1)) (aNil)))) (aoCons (bCall F__law_overlap (aCons (bFz (bV 2)) (aNil))) (aNil))))
    (sSeq (sIf (bT (bOp ltD (bFn lenD (aCons (bV 2) (aNil))) (bC (.int 7)))) (sRet (bCall (F__law_same 5) (aCons (bFz (bV 3)) (aCons (bFz (bLstE (aCons (bFz (bC (.str [115, 104, 111, 114, 116]))) (aCons (bFz (bV 2)) (aNil))))) (aNil))))) (sNx))
    (sSeq (sIf (bT (bOp isnD (bV 4) (bC .non))) (sRet (bCall (F__law_same 5) (aCons (bFz (bV 3)) (aCons (bFz (bLstE (aCons (bFz (bC (.str [111, 118, 101, 114, 108, 97, 112]))) (aCons (bFz (bV 4)) (aNil))))) (aNil))))) (sNx))
    (sSeq (sSet 5 (bCall F__law_ways (aCons (bFz (bV 2)) (aNil))))
    (sRet (bAndV (bOp eqD (bFn lenD (aCons (bV 5) (aNil))) (bC (.int 1))) (bCall (F__law_same 5) (aCons (bFz (bV 3)) (aCons (bFz (bLstE (aCons (bFz (bC (.str [116, 111, 108, 100]))) (aCons (bFz (bOp ixD (bV 5) (bC (.int 0)))) (aNil))))) (aNil)))))))))))
def F__law_peeling_right : Fx := runB 6 2 B__law_peeling_right
abbrev s_law : Stmt := topS 51
abbrev N_law : List Str := ["script", "k", "box", "by_name", "great", "turn", "odd"]
theorem sc_law : FnScope N_law ["script"] (defScope s_law) := ⟨rfl, rfl, rfl, by decide +kernel, rfl, by decide +kernel, by decide +kernel⟩
def B_law : Sx := sSeq (sFor (iRange1 (bFn maxD (aCons (bC (.int 2)) (aCons (bFn minD (aCons (bC (.int 4)) (aCons (bFn lenD (aCons (bV 0) (aNil))) (aNil)))) (aNil))))) (bName 1) (sSeq (sSet 2 (bCall F__law_box (aCons (bFz (bCall F__law_cell (aCons (bFz (bV 0)) (aCons (bFz (bV 1)) (aNil))))) (aNil))))
    (sSeq (sParN [3, 4] (aoCons (bOp eqD (bCall F__law_take (aCons (bV 2) (aCons (bFz (bC (.int 2))) (aNil)))) (bC (.int 1))) (aoCons (bOp eqD (bCall F__law_take (aCons (bV 2) (aCons (bFz (bC (.int 8))) (aNil)))) (bC (.int 0))) (aNil))))
    (sSeq (sIf (bNot (bT (bCall F__law_word_right (aCons (bV 2) (aCons (bFz (bV 4)) (aCons (bFz (bV 3)) (aNil))))))) (sRet (bC (.bl false))) (sNx))
    (sSeq (sFor (iRange1 (bC (.int 7))) (bName 5) (sSeq (sIf (bNot (bT (bCall F__law_peeling_right (aCons (bV 2) (aCons (bFz (bV 3)) (aNil)))))) (sRet (bC (.bl false))) (sNx))
    (sSet 3 (bNotV (bV 3)))))
    (sSeq (sSet 6 (bOp ixD (bLstE (aCons (bFz (bCall F__law_odd_word (aCons (bV 2) (aNil)))) (aCons (bFz (bC (.str [97, 98, 99, 97, 98, 97, 98]))) (aCons (bFz (bC (.str [97, 98, 98, 97, 98, 97, 97, 98, 99]))) (aNil))))) (bCall F__law_take (aCons (bV 2) (aCons (bFz (bC (.int 3))) (aNil))))))
    (sIf (bNot (bT (bCall (F__law_same 5) (aCons (bFz (bCall F__law_peeled (aCons (bFz (bV 6)) (aCons (bFz (bV 3)) (aNil))))) (aCons (bFz (bLstE (aCons (bFz (bC (.str [119, 111, 114, 100]))) (aCons (bFz (bV 6)) (aNil))))) (aNil)))))) (sRet (bC (.bl false))) (sNx))))))))
    (sRet (bC (.bl true)))
def F_law : Fx := runB 7 1 B_law
structure Tx (K : PySem.W.Frag) (mg : Str → Option Value) : Prop where
  b_abs : mg "abs" = none
  b_all : mg "all" = none
  b_bool : mg "bool" = none
  b_dict : mg "dict" = none
  b_int : mg "int" = none
  b_isinstance : mg "isinstance" = none
  b_len : mg "len" = none
  b_list : mg "list" = none
  b_max : mg "max" = none
  b_min : mg "min" = none
  b_range : mg "range" = none
  b_str : mg "str" = none
  b_sum : mg "sum" = none
  b_tuple : mg "tuple" = none
  c_LETTERS : GStr mg "LETTERS" [97, 98, 99, 100]
  c_MOST_LETTERS : GInt mg "MOST_LETTERS" 200
  c_BASE : GInt mg "BASE" 4
  c_MOST_INDEX : GInt mg "MOST_INDEX" 1000000000000000000000000000000
  c_LEAST_PEELED : GInt mg "LEAST_PEELED" 7
  c_ENDS : GDat K mg "ENDS" (.tup [(.str []), (.str [97]), (.str [98]), (.str [97, 97]), (.str [98, 98])])
  d_is_integer : DF K mg "is_integer" (topS 12)
  d_is_between : DF K mg "is_between" (topS 13)
  d_is_letters : DFD K mg "is_letters" (topS 14) [V.int 4, V.int 200]
  d_check_word : DFD K mg "check_word" (topS 15) (([.int (4), .int (200)] : List D).map litV)
  d_overlap_place : DF K mg "overlap_place" (topS 17)
  d_letter_of : DF K mg "letter_of" (topS 22)
  d_part_of : DF K mg "part_of" (topS 23)
  d_check_size : DFD K mg "check_size" (topS 24) (([.int (200), .int (0)] : List D).map litV)
  d_check_place : DF K mg "check_place" (topS 25)
  d_thue_prefix : DF K mg "thue_prefix" (topS 26)
  d_thue_letter : DF K mg "thue_letter" (topS 27)
  d_thue_part : DF K mg "thue_part" (topS 28)
  d_thue_counts : DF K mg "thue_counts" (topS 29)
  d_check_free : DF K mg "check_free" (topS 30)
  d_halved : DF K mg "halved" (topS 31)
  d_peeled : DF K mg "peeled" (topS 32)
  d__law_cell : DF K mg "_law_cell" (topS 34)
  d__law_box : DF K mg "_law_box" (topS 35)
  d__law_take : DF K mg "_law_take" (topS 36)
  d__law_same : DF K mg "_law_same" (topS 37)
  d__law_near : DF K mg "_law_near" (topS 38)
  d__law_odd_word : DF K mg "_law_odd_word" (topS 39)
  d__law_odd : DF K mg "_law_odd" (topS 40)
  d__law_part : DF K mg "_law_part" (topS 41)
  d__law_counts : DF K mg "_law_counts" (topS 42)
  d__law_asked : DF K mg "_law_asked" (topS 43)
  d__law_word_right : DF K mg "_law_word_right" (topS 44)
  d__law_overlap : DF K mg "_law_overlap" (topS 45)
  d__law_mu : DF K mg "_law_mu" (topS 46)
  d__law_drawn_free : DF K mg "_law_drawn_free" (topS 47)
  d__law_ways : DF K mg "_law_ways" (topS 48)
  d__law_peeled : DF K mg "_law_peeled" (topS 49)
  d__law_peeling_right : DF K mg "_law_peeling_right" (topS 50)
  e_InvalidIndex : ErF K mg "InvalidIndex" "InvalidIndex.__init__" (inClass (topS 2) 0) ["given"]
  e_InvalidLength : ErF K mg "InvalidLength" "InvalidLength.__init__" (inClass (topS 3) 0) ["given"]
  e_InvalidWord : ErF K mg "InvalidWord" "InvalidWord.__init__" (inClass (topS 4) 0) ["given"]
  e_HasOverlap : ErF K mg "HasOverlap" "HasOverlap.__init__" (inClass (topS 6) 0) ["end", "start"]
  e_TooShort : ErF K mg "TooShort" "TooShort.__init__" (inClass (topS 7) 0) ["word"]
  ect : ErTab K mg flds ecs
  h__law_asked : ∀ args r as, F__law_asked args = some (r, as) → runN N__law_asked.length 4 (B__law_asked mg) args [] (fun r' as' κ' => r' = r ∧ as' = as ∧ κ' = []) (fun _ _ _ => False)
  h__law_peeled : ∀ args r as, F__law_peeled args = some (r, as) → runN N__law_peeled.length 2 (B__law_peeled) args [] (fun r' as' κ' => r' = r ∧ as' = as ∧ κ' = []) (fun _ _ _ => False)
variable {P : Program} {w : World} {K : PySem.W.Frag} {mg : Str → Option Value} {base : Heap}
theorem er_InvalidIndex (T : Tx K mg) : ErOk P w K mg base "InvalidIndex" 1 ["given"] := er_of (ps := ["self", "given"]) T.e_InvalidIndex (fun f fd F => init_1 (N := ["self", "given"]) rfl F sc_InvalidIndex (fun cdv A outer s H E => pss_one (ps_ost (pv 0) (pv 1)))) (fun _ _ _ _ _ _ us hl => match us, hl with | [_, _], _ => rfl)
theorem er_InvalidLength (T : Tx K mg) : ErOk P w K mg base "InvalidLength" 1 ["given"] := er_of (ps := ["self", "given"]) T.e_InvalidLength (fun f fd F => init_1 (N := ["self", "given"]) rfl F sc_InvalidLength (fun cdv A outer s H E => pss_one (ps_ost (pv 0) (pv 1)))) (fun _ _ _ _ _ _ us hl => match us, hl with | [_, _], _ => rfl)
theorem er_InvalidWord (T : Tx K mg) : ErOk P w K mg base "InvalidWord" 1 ["given"] := er_of (ps := ["self", "given"]) T.e_InvalidWord (fun f fd F => init_1 (N := ["self", "given"]) rfl F sc_InvalidWord (fun cdv A outer s H E => pss_one (ps_ost (pv 0) (pv 1)))) (fun _ _ _ _ _ _ us hl => match us, hl with | [_, _], _ => rfl)
theorem er_HasOverlap (T : Tx K mg) : ErOk P w K mg base "HasOverlap" 1 ["end", "start"] := er_of (ps := ["self", "end", "start"]) T.e_HasOverlap (fun f fd F => init_2 (N := ["self", "end", "start"]) rfl F sc_HasOverlap (fun cdv A outer s H E => pss_cons (ps_ost (pv 0) (pv 1)) (pss_one (ps_ost (pv 0) (pv 2))))) (fun _ _ _ _ _ _ us hl => match us, hl with | [_, _, _], _ => rfl)
theorem er_TooShort (T : Tx K mg) : ErOk P w K mg base "TooShort" 1 ["word"] := er_of (ps := ["self", "word"]) T.e_TooShort (fun f fd F => init_1 (N := ["self", "word"]) rfl F sc_TooShort (fun cdv A outer s H E => pss_one (ps_ost (pv 0) (pv 1)))) (fun _ _ _ _ _ _ us hl => match us, hl with | [_, _], _ => rfl)
theorem fok_is_integer (T : Tx K mg) (f : Addr) (fd : FuncData) (F : Fun K "is_integer" "is_integer" s_is_integer f fd) : FnOk P w K mg base CX0 1 f fd ["value"] (spV K F_is_integer) := fn_ok (N := N_is_integer) (body := B_is_integer) F sc_is_integer rfl fun cdv A outer s H E hr =>
    (bv_one (sv_ret (ev_and (ev_fn call_isi fnd_isi rfl T.b_isinstance PyProof.Rows.boot_isinstance (av_cons (ev_n 0) (av_cons (ev_cls rfl T.b_int (by decide +kernel)) av_nil))) (ev_one (ev_not (ev_fn call_isi fnd_isi rfl T.b_isinstance PyProof.Rows.boot_isinstance (av_cons (ev_n 0) (av_cons (ev_cls rfl T.b_bool (by decide +kernel)) av_nil))))))))
theorem ok_is_integer (T : Tx K mg) : DefOk P w K mg base "is_integer" 1 ["value"] F_is_integer := def_of T.d_is_integer (fok_is_integer T) (fun _ _ _ _ _ _ us hl => match us, hl with | [_], _ => rfl)
theorem fok_is_between (T : Tx K mg) (f : Addr) (fd : FuncData) (F : Fun K "is_between" "is_between" s_is_between f fd) : FnOk P w K mg base CX0 2 f fd ["value", "least", "most"] (spV K F_is_between) := fn_ok (N := N_is_between) (body := B_is_between) F sc_is_between rfl fun cdv A outer s H E hr =>
    (bv_one (sv_ret (ev_and (ev_call (ok_is_integer T) (hr.mono (by decide)) (av_cons (ev_fz (ev_n 0)) av_nil)) (ev_one (ev_chain op_le op_le opd_ib opd_ib (ev_n 1) (ev_n 0) (ev_n 2))))))
theorem ok_is_between (T : Tx K mg) : DefOk P w K mg base "is_between" 2 ["value", "least", "most"] F_is_between := def_of T.d_is_between (fok_is_between T) (fun _ _ _ _ _ _ us hl => match us, hl with | [_, _, _], _ => rfl)
theorem ok_is_letters (T : Tx K mg) : DefD P w K mg base "is_letters" 1 ["value", "letters", "most"] [V.int 4, V.int 200] F_is_letters :=
  defD_of (n := 1) T.d_is_letters (fun f fd F => by
   unfold F_is_letters
   exact fnD_ok (N := N_is_letters) (body := B_is_letters) F sc_is_letters fun cdv A outer s H E hr =>
    (bv_cons (sv_if (tv_w (wv_or (tv_not (tv_val (ev_fn call_isi fnd_isi rfl T.b_isinstance PyProof.Rows.boot_isinstance (av_cons (ev_n 0) (av_cons (ev_cls rfl T.b_str (by decide +kernel)) av_nil))))) (wv_one_or (tv_cmp op_gt opd_ib (nomark _) (ev_fn call_len fnd_len rfl T.b_len PySem.boot_len (av_cons (ev_n 0) av_nil)) (ev_n 2))))) (bv_one (sv_ret ev_bl)) bv_nil)
    (bv_one (sv_ret (ev_fn (cr_all rfl) fnd_all rfl T.b_all PyProof.Rows.boot_all (av_cons (ev_comp (own := [("sign", 3)]) rfl sc_is_letters.nd (blkOk_by (N := N_is_letters) (sc := defScope s_is_letters) (by decide +kernel)) (iv_txt (ev_n 0)) (fun _ _ _ _ _ => (gv_n 3 sc_is_letters.nd)) (fun _ _ _ _ _ => tsv_nil) (fun _ _ _ _ _ => (ev_cmp op_inX opd_in (by rfl) (ev_n 3) (ev_slice (ev_gstr T.c_LETTERS rfl) ov_none (ov_some (ev_n 1)))))) av_nil)))))) (by simp) rfl (fun j hj => match j, hj with | 0, _ => fun T kV doc pm an cdv ct us its h1 h2 => (match us, h1, its, h2 with | [_], _, [_, _], _ => ⟨_, rfl, rfl⟩) | 1, _ => fun T kV doc pm an cdv ct us its h1 h2 => (match us, h1, its, h2 with | [_, _], _, [_, _], _ => ⟨_, rfl, rfl⟩) | 2, _ => fun T kV doc pm an cdv ct us its h1 h2 => (match us, h1, its, h2 with | [_, _, _], _, [_, _], _ => ⟨_, rfl, rfl⟩) | (k + 3), h => absurd h (by simp))
theorem mo_check_word : Mono (B_check_word) := (mono_if mono_up (mono_raise mono_up) mono_up)
theorem mf_check_word : MonoF (F_check_word) := mono_run (mo_check_word)
theorem ok_check_word (T : Tx K mg) : DefG P w K mg base (L2.CX P w) "check_word" s_check_word 3 ["value", "letters", "most"] [.int (4), .int (200)] (spN K mg (F_check_word)) :=
  defG_ofD (dds := [.int (4), .int (200)]) T.d_check_word fun f fd F => fn_okND (N := N_check_word) (ps := ["value", "letters", "most"]) F sc_check_word (mo_check_word) fun cdv A outer s H E hr tk =>
    (bn_one (sn_if mono_up (mono_raise mono_up) mono_up (tn_up (tv_not (tv_val (ev_callD (ds := []) (ok_is_letters T) 2 (by decide) (fun _ => rfl) (hr.mono (by decide)) (av_cons (ev_fz (ev_n 0)) (av_cons (ev_fz (ev_n 1)) (av_cons (ev_fz (ev_n 2)) av_nil))))))) (bn_one (sn_raise (er_InvalidWord T) (by decide) rfl tk (hr.mono (by decide)) mono_up (an_up (av_cons (ev_fz (ev_n 0)) av_nil))) (mono_raise mono_up)) bn_nil) (mono_if mono_up (mono_raise mono_up) mono_up))
theorem fok_overlap_place (T : Tx K mg) (f : Addr) (fd : FuncData) (F : Fun K "overlap_place" "overlap_place" s_overlap_place f fd) : FnOk P w K mg base CX0 1 f fd ["word"] (spV K F_overlap_place) := fn_ok (N := N_overlap_place) (body := B_overlap_place) F sc_overlap_place rfl fun cdv A outer s H E hr =>
    (bv_cons (sv_for PassesOwn.never rfl (iv_range2 rfl T.b_range ev_int (ev_add (ev_fn call_len fnd_len rfl T.b_len PySem.boot_len (av_cons (ev_n 0) av_nil)) ev_int)) (gv_n 1 sc_overlap_place.nd) (bv_one (sv_for PassesOwn.never rfl (iv_range3 rfl T.b_range (ev_fdiv (ev_sub (ev_n 1) ev_int) ev_int) ev_int (ev_neg ev_int)) (gv_n 2 sc_overlap_place.nd) (bv_cons (sv_n 3 sc_overlap_place.nd (ev_sub (ev_sub (ev_n 1) (ev_mul ev_int (ev_n 2))) ev_int))
    (bv_one (sv_if (tv_cmp (op_eqX (hr.units)) opd_eq (nomark _) (ev_slice (ev_n 0) (ov_some (ev_n 3)) (ov_some (ev_sub (ev_n 1) (ev_n 2)))) (ev_slice (ev_n 0) (ov_some (ev_add (ev_n 3) (ev_n 2))) (ov_some (ev_n 1)))) (bv_one (sv_ret (ev_tupE (av_cons (ev_fz (ev_n 1)) (av_cons (ev_fz (ev_n 3)) av_nil))))) bv_nil))))))
    (bv_one (sv_ret ev_non)))
theorem ok_overlap_place (T : Tx K mg) : DefOk P w K mg base "overlap_place" 1 ["word"] F_overlap_place := def_of T.d_overlap_place (fok_overlap_place T) (fun _ _ _ _ _ _ us hl => match us, hl with | [_], _ => rfl)
theorem fok_letter_of (T : Tx K mg) (f : Addr) (fd : FuncData) (F : Fun K "letter_of" "letter_of" s_letter_of f fd) : FnOk P w K mg base CX0 1 f fd ["index"] (spV K F_letter_of) := fn_ok (N := N_letter_of) (body := B_letter_of) F sc_letter_of rfl fun cdv A outer s H E hr =>
    (bv_cons (sv_par2 (fs := _) (i := 1) (j := 2) rfl sc_letter_of.nd rfl rfl (by decide) rfl rfl (ao_cons ev_int (ao_cons (ev_fz (ev_n 0)) ao_nil)) rfl)
    (bv_cons (sv_while PassesOwn.never (tv_cmp op_gt opd_ib (nomark _) (ev_n 2) ev_int) (bv_one (sv_par2 (fs := _) (i := 1) (j := 2) rfl sc_letter_of.nd rfl rfl (by decide) rfl rfl (ao_cons (ev_add (ev_n 1) (ev_mod (ev_n 2) ev_int)) (ao_cons (ev_fdiv (ev_n 2) ev_int) ao_nil)) rfl)))
    (bv_one (sv_ret (ev_item (fun _ _ => rfl) (ev_str (l := [97, 98]) (by decide +kernel)) (ev_mod (ev_n 1) ev_int))))))
theorem ok_letter_of (T : Tx K mg) : DefOk P w K mg base "letter_of" 1 ["index"] F_letter_of := def_of T.d_letter_of (fok_letter_of T) (fun _ _ _ _ _ _ us hl => match us, hl with | [_], _ => rfl)
theorem fok_part_of (T : Tx K mg) (f : Addr) (fd : FuncData) (F : Fun K "part_of" "part_of" s_part_of f fd) : FnOk P w K mg base CX0 2 f fd ["index", "length"] (spV K F_part_of) := fn_ok (N := N_part_of) (body := B_part_of) F sc_part_of rfl fun cdv A outer s H E hr =>
    (bv_one (sv_ret (ev_join (ev_str (l := []) (by decide +kernel)) (av_cons (ev_comp (own := [("at", 2)]) rfl sc_part_of.nd (blkOk_by (N := N_part_of) (sc := defScope s_part_of) (by decide +kernel)) (iv_rangeB rfl T.b_range (ev_n 0) (ev_add (ev_n 0) (ev_n 1))) (fun _ _ _ _ _ => (gv_n 2 sc_part_of.nd)) (fun _ _ _ _ _ => tsv_nil) (fun _ _ _ _ _ => (ev_call (ok_letter_of T) (hr.mono (by decide)) (av_cons (ev_fz (ev_n 2)) av_nil)))) av_nil))))
theorem ok_part_of (T : Tx K mg) : DefOk P w K mg base "part_of" 2 ["index", "length"] F_part_of := def_of T.d_part_of (fok_part_of T) (fun _ _ _ _ _ _ us hl => match us, hl with | [_, _], _ => rfl)
theorem mo_check_size : Mono (B_check_size) := (mono_if mono_up (mono_raise mono_up) mono_up)
theorem mf_check_size : MonoF (F_check_size) := mono_run (mo_check_size)
theorem ok_check_size (T : Tx K mg) : DefG P w K mg base (L2.CX P w) "check_size" s_check_size 3 ["length", "most", "least"] [.int (200), .int (0)] (spN K mg (F_check_size)) :=
  defG_ofD (dds := [.int (200), .int (0)]) T.d_check_size fun f fd F => fn_okND (N := N_check_size) (ps := ["length", "most", "least"]) F sc_check_size (mo_check_size) fun cdv A outer s H E hr tk =>
    (bn_one (sn_if mono_up (mono_raise mono_up) mono_up (tn_up (tv_not (tv_val (ev_call (ok_is_between T) (hr.mono (by decide)) (av_cons (ev_fz (ev_n 0)) (av_cons (ev_fz (ev_n 2)) (av_cons (ev_fz (ev_n 1)) av_nil))))))) (bn_one (sn_raise (er_InvalidLength T) (by decide) rfl tk (hr.mono (by decide)) mono_up (an_up (av_cons (ev_fz (ev_n 0)) av_nil))) (mono_raise mono_up)) bn_nil) (mono_if mono_up (mono_raise mono_up) mono_up))
theorem mo_check_place : Mono (B_check_place) := (mono_if mono_up (mono_raise mono_up) mono_up)
theorem mf_check_place : MonoF (F_check_place) := mono_run (mo_check_place)
theorem ok_check_place (T : Tx K mg) : DefG P w K mg base (L2.CX P w) "check_place" s_check_place 3 ["index"] [] (spN K mg (F_check_place)) :=
  defG_of T.d_check_place fun f fd F => fn_okN (N := N_check_place) (ps := ["index"]) F sc_check_place (mo_check_place) fun cdv A outer s H E hr tk =>
    (bn_one (sn_if mono_up (mono_raise mono_up) mono_up (tn_up (tv_not (tv_val (ev_call (ok_is_between T) (hr.mono (by decide)) (av_cons (ev_fz (ev_n 0)) (av_cons (ev_fz ev_int) (av_cons (ev_fz (ev_gint T.c_MOST_INDEX rfl)) av_nil))))))) (bn_one (sn_raise (er_InvalidIndex T) (by decide) rfl tk (hr.mono (by decide)) mono_up (an_up (av_cons (ev_fz (ev_n 0)) av_nil))) (mono_raise mono_up)) bn_nil) (mono_if mono_up (mono_raise mono_up) mono_up))
theorem bg_check_size_1_ : BindG "check_size" s_check_size ["length", "most", "least"] 1 [] [.inl 0, .inr 0, .inr 1] 2 := .inr ⟨by decide, fun _ _ _ _ _ _ _ us ws its h1 h2 h3 => match us, h1, ws, h2, its, h3 with | [_], _, [], _, [_, _], _ => ⟨_, rfl, rfl⟩⟩
theorem mo_thue_prefix : Mono (B_thue_prefix) := (mono_seq (mono_drop (mono_call (mf_check_size) (mono_pick (mono_app mono_up mono_up)))) mono_up)
theorem mf_thue_prefix : MonoF (F_thue_prefix) := mono_run (mo_thue_prefix)
theorem ok_thue_prefix (T : Tx K mg) : DefG P w K mg base (L2.CX P w) "thue_prefix" s_thue_prefix 4 ["length"] [] (spN K mg (F_thue_prefix)) :=
  defG_of T.d_thue_prefix fun f fd F => fn_okN (N := N_thue_prefix) (ps := ["length"]) F sc_thue_prefix (mo_thue_prefix) fun cdv A outer s H E hr tk =>
    (bn_cons (mono_drop (mono_call (mf_check_size) (mono_pick (mono_app mono_up mono_up)))) mono_up (sn_drop (mono_call (mf_check_size) (mono_pick (mono_app mono_up mono_up))) (en_callG (ok_check_size T) bg_check_size_1_ (lits_ok rfl) (mf_check_size) mono_up mono_up tk (hr.mono (by decide)) (an_up (av_cons (ev_fz (ev_n 0)) av_nil)) kn_nil))
    (bn_up (bv_nox (bv_one (sv_ret (ev_call (ok_part_of T) (hr.mono (by decide)) (av_cons (ev_fz ev_int) (av_cons (ev_fz (ev_n 0)) av_nil))))))))
theorem bg_check_place_1_ : BindG "check_place" s_check_place ["index"] 1 [] [.inl 0] 0 := .inl ⟨rfl, fun _ _ _ _ _ _ us ws h1 h2 => match us, h1, ws, h2 with | [_], _, [], _ => rfl⟩
theorem mo_thue_letter : Mono (B_thue_letter) := (mono_seq (mono_drop (mono_call (mf_check_place) (mono_pick (mono_app mono_up mono_up)))) mono_up)
theorem mf_thue_letter : MonoF (F_thue_letter) := mono_run (mo_thue_letter)
theorem ok_thue_letter (T : Tx K mg) : DefG P w K mg base (L2.CX P w) "thue_letter" s_thue_letter 4 ["index"] [] (spN K mg (F_thue_letter)) :=
  defG_of T.d_thue_letter fun f fd F => fn_okN (N := N_thue_letter) (ps := ["index"]) F sc_thue_letter (mo_thue_letter) fun cdv A outer s H E hr tk =>
    (bn_cons (mono_drop (mono_call (mf_check_place) (mono_pick (mono_app mono_up mono_up)))) mono_up (sn_drop (mono_call (mf_check_place) (mono_pick (mono_app mono_up mono_up))) (en_callG (ok_check_place T) bg_check_place_1_ (lits_ok rfl) (mf_check_place) mono_up mono_up tk (hr.mono (by decide)) (an_up (av_cons (ev_fz (ev_n 0)) av_nil)) kn_nil))
    (bn_up (bv_nox (bv_one (sv_ret (ev_call (ok_letter_of T) (hr.mono (by decide)) (av_cons (ev_fz (ev_n 0)) av_nil)))))))
theorem mo_thue_part : Mono (B_thue_part) := (mono_seq (mono_drop (mono_call (mf_check_place) (mono_pick (mono_app mono_up mono_up)))) (mono_seq (mono_drop (mono_call (mf_check_size) (mono_pick (mono_app mono_up mono_up)))) mono_up))
theorem mf_thue_part : MonoF (F_thue_part) := mono_run (mo_thue_part)
theorem ok_thue_part (T : Tx K mg) : DefG P w K mg base (L2.CX P w) "thue_part" s_thue_part 4 ["index", "length"] [] (spN K mg (F_thue_part)) :=
  defG_of T.d_thue_part fun f fd F => fn_okN (N := N_thue_part) (ps := ["index", "length"]) F sc_thue_part (mo_thue_part) fun cdv A outer s H E hr tk =>
    (bn_cons (mono_drop (mono_call (mf_check_place) (mono_pick (mono_app mono_up mono_up)))) (mono_seq (mono_drop (mono_call (mf_check_size) (mono_pick (mono_app mono_up mono_up)))) mono_up) (sn_drop (mono_call (mf_check_place) (mono_pick (mono_app mono_up mono_up))) (en_callG (ok_check_place T) bg_check_place_1_ (lits_ok rfl) (mf_check_place) mono_up mono_up tk (hr.mono (by decide)) (an_up (av_cons (ev_fz (ev_n 0)) av_nil)) kn_nil))
    (bn_cons (mono_drop (mono_call (mf_check_size) (mono_pick (mono_app mono_up mono_up)))) mono_up (sn_drop (mono_call (mf_check_size) (mono_pick (mono_app mono_up mono_up))) (en_callG (ok_check_size T) bg_check_size_1_ (lits_ok rfl) (mf_check_size) mono_up mono_up tk (hr.mono (by decide)) (an_up (av_cons (ev_fz (ev_n 1)) av_nil)) kn_nil))
    (bn_up (bv_nox (bv_one (sv_ret (ev_call (ok_part_of T) (hr.mono (by decide)) (av_cons (ev_fz (ev_n 0)) (av_cons (ev_fz (ev_n 1)) av_nil)))))))))
theorem mo_thue_counts : Mono (B_thue_counts) := (mono_seq (mono_drop (mono_call (mf_check_place) (mono_pick (mono_app mono_up mono_up)))) mono_up)
theorem mf_thue_counts : MonoF (F_thue_counts) := mono_run (mo_thue_counts)
theorem ok_thue_counts (T : Tx K mg) : DefG P w K mg base (L2.CX P w) "thue_counts" s_thue_counts 4 ["index"] [] (spN K mg (F_thue_counts)) :=
  defG_of T.d_thue_counts fun f fd F => fn_okN (N := N_thue_counts) (ps := ["index"]) F sc_thue_counts (mo_thue_counts) fun cdv A outer s H E hr tk =>
    (bn_cons (mono_drop (mono_call (mf_check_place) (mono_pick (mono_app mono_up mono_up)))) mono_up (sn_drop (mono_call (mf_check_place) (mono_pick (mono_app mono_up mono_up))) (en_callG (ok_check_place T) bg_check_place_1_ (lits_ok rfl) (mf_check_place) mono_up mono_up tk (hr.mono (by decide)) (an_up (av_cons (ev_fz (ev_n 0)) av_nil)) kn_nil))
    (bn_up (bv_nox (bv_cons (sv_n 1 sc_thue_counts.nd (ev_fz (ev_ifE (tv_cmp (op_eqX (hr.units)) opd_eq (nomark _) (ev_mod (ev_n 0) ev_int) ev_int) (ev_call (ok_letter_of T) (hr.mono (by decide)) (av_cons (ev_fz (ev_sub (ev_n 0) ev_int)) av_nil)) (ev_str (l := []) (by decide +kernel)))))
    (bv_one (sv_ret (ev_tupE (av_cons (ev_fz (ev_add (ev_fdiv (ev_n 0) ev_int) (ev_ty call_int1 fnd_int rfl T.b_int PyProof.Rows.boot_int (av_cons (ev_cmp (op_eqX (hr.units)) opd_eq (nomark _) (ev_n 1) (ev_str (l := [97]) (by decide +kernel))) av_nil)))) (av_cons (ev_fz (ev_add (ev_fdiv (ev_n 0) ev_int) (ev_ty call_int1 fnd_int rfl T.b_int PyProof.Rows.boot_int (av_cons (ev_cmp (op_eqX (hr.units)) opd_eq (nomark _) (ev_n 1) (ev_str (l := [98]) (by decide +kernel))) av_nil)))) av_nil)))))))))
theorem mo_check_free : Mono (B_check_free) := (mono_seq mono_up (mono_if mono_up (mono_raise mono_up) mono_up))
theorem mf_check_free : MonoF (F_check_free) := mono_run (mo_check_free)
theorem ok_check_free (T : Tx K mg) : DefG P w K mg base (L2.CX P w) "check_free" s_check_free 3 ["word"] [] (spN K mg (F_check_free)) :=
  defG_of T.d_check_free fun f fd F => fn_okN (N := N_check_free) (ps := ["word"]) F sc_check_free (mo_check_free) fun cdv A outer s H E hr tk =>
    (bn_cons mono_up (mono_if mono_up (mono_raise mono_up) mono_up) (sn_up (sv_nox (sv_n 1 sc_check_free.nd (ev_call (ok_overlap_place T) (hr.mono (by decide)) (av_cons (ev_fz (ev_n 0)) av_nil)))))
    (bn_one (sn_if mono_up (mono_raise mono_up) mono_up (tn_up (tv_cmp op_isnX opd_isn (nomark _) (ev_n 1) ev_non)) (bn_one (sn_raise (er_HasOverlap T) (by decide) rfl tk (hr.mono (by decide)) mono_up (an_up (av_cons (ev_fz (ev_item (fun _ _ => rfl) (ev_n 1) ev_int)) (av_cons (ev_fz (ev_item (fun _ _ => rfl) (ev_n 1) ev_int)) av_nil)))) (mono_raise mono_up)) bn_nil) (mono_if mono_up (mono_raise mono_up) mono_up)))
theorem fok_halved (T : Tx K mg) (f : Addr) (fd : FuncData) (F : Fun K "halved" "halved" s_halved f fd) : FnOk P w K mg base CX0 1 f fd ["word"] (spV K F_halved) := fn_ok (N := N_halved) (body := B_halved) F sc_halved rfl fun cdv A outer s H E hr =>
    (bv_cons (sv_setComp (own := [("at", 2)]) (i := 1) rfl sc_halved.nd rfl rfl (sw_true rfl rfl rfl (by decide +kernel)) (blkOk_by (N := N_halved) (sc := defScope s_halved) (by decide +kernel)) (iv_rangeU rfl T.b_range ev_int (ev_fn call_len fnd_len rfl T.b_len PySem.boot_len (av_cons (ev_n 0) av_nil)) ev_int) (fun _ _ _ _ _ => (gv_n 2 sc_halved.nd)) (fun _ _ _ _ _ => tsv_nil) (fun _ _ _ _ _ => (ev_slice (ev_n 0) (ov_some (ev_n 2)) (ov_some (ev_add (ev_n 2) ev_int)))))
    (bv_one (sv_ret (ev_ifE (tv_val (ev_fn (cr_all rfl) fnd_all rfl T.b_all PyProof.Rows.boot_all (av_cons (ev_comp (own := [("pair", 3)]) rfl sc_halved.nd (blkOk_by (N := N_halved) (sc := defScope s_halved) (by decide +kernel)) (iv_list (ev_n 1)) (fun _ _ _ _ _ => (gv_n 3 sc_halved.nd)) (fun _ _ _ _ _ => tsv_nil) (fun _ _ _ _ _ => (ev_cmp op_inX opd_in (by rfl) (ev_n 3) (ev_tupE (av_cons (ev_fz (ev_str (l := [97, 98]) (by decide +kernel))) (av_cons (ev_fz (ev_str (l := [98, 97]) (by decide +kernel))) av_nil)))))) av_nil))) (ev_join (ev_str (l := []) (by decide +kernel)) (av_cons (ev_comp (own := [("pair", 3)]) rfl sc_halved.nd (blkOk_by (N := N_halved) (sc := defScope s_halved) (by decide +kernel)) (iv_list (ev_n 1)) (fun _ _ _ _ _ => (gv_n 3 sc_halved.nd)) (fun _ _ _ _ _ => tsv_nil) (fun _ _ _ _ _ => (ev_item (fun _ _ => rfl) (ev_n 3) ev_int))) av_nil)) ev_non))))
theorem ok_halved (T : Tx K mg) : DefOk P w K mg base "halved" 1 ["word"] F_halved := def_of T.d_halved (fok_halved T) (fun _ _ _ _ _ _ us hl => match us, hl with | [_], _ => rfl)
theorem bg_check_word_2_ : BindG "check_word" s_check_word ["value", "letters", "most"] 2 [] [.inl 0, .inl 1, .inr 1] 2 := .inr ⟨by decide, fun _ _ _ _ _ _ _ us ws its h1 h2 h3 => match us, h1, ws, h2, its, h3 with | [_, _], _, [], _, [_, _], _ => ⟨_, rfl, rfl⟩⟩
theorem bg_check_free_1_ : BindG "check_free" s_check_free ["word"] 1 [] [.inl 0] 0 := .inl ⟨rfl, fun _ _ _ _ _ _ us ws h1 h2 => match us, h1, ws, h2 with | [_], _, [], _ => rfl⟩
theorem mo_peeled : Mono (B_peeled) := (mono_seq (mono_drop (mono_call (mf_check_word) (mono_pick (mono_app mono_up mono_up)))) (mono_seq (mono_if mono_up (mono_raise mono_up) mono_up) (mono_seq (mono_drop (mono_call (mf_check_free) (mono_pick (mono_app mono_up mono_up)))) mono_up)))
theorem mf_peeled : MonoF (F_peeled) := mono_run (mo_peeled)
theorem ok_peeled (T : Tx K mg) : DefG P w K mg base (L2.CX P w) "peeled" s_peeled 4 ["word"] [] (spN K mg (F_peeled)) :=
  defG_of T.d_peeled fun f fd F => fn_okN (N := N_peeled) (ps := ["word"]) F sc_peeled (mo_peeled) fun cdv A outer s H E hr tk =>
    (bn_cons (mono_drop (mono_call (mf_check_word) (mono_pick (mono_app mono_up mono_up)))) (mono_seq (mono_if mono_up (mono_raise mono_up) mono_up) (mono_seq (mono_drop (mono_call (mf_check_free) (mono_pick (mono_app mono_up mono_up)))) mono_up)) (sn_drop (mono_call (mf_check_word) (mono_pick (mono_app mono_up mono_up))) (en_callG (ok_check_word T) bg_check_word_2_ (lits_ok rfl) (mf_check_word) mono_up mono_up tk (hr.mono (by decide)) (an_up (av_cons (ev_fz (ev_n 0)) (av_cons (ev_fz ev_int) av_nil))) kn_nil))
    (bn_cons (mono_if mono_up (mono_raise mono_up) mono_up) (mono_seq (mono_drop (mono_call (mf_check_free) (mono_pick (mono_app mono_up mono_up)))) mono_up) (sn_if mono_up (mono_raise mono_up) mono_up (tn_up (tv_cmp op_lt opd_ib (nomark _) (ev_fn call_len fnd_len rfl T.b_len PySem.boot_len (av_cons (ev_n 0) av_nil)) (ev_gint T.c_LEAST_PEELED rfl))) (bn_one (sn_raise (er_TooShort T) (by decide) rfl tk (hr.mono (by decide)) mono_up (an_up (av_cons (ev_fz (ev_n 0)) av_nil))) (mono_raise mono_up)) bn_nil)
    (bn_cons (mono_drop (mono_call (mf_check_free) (mono_pick (mono_app mono_up mono_up)))) mono_up (sn_drop (mono_call (mf_check_free) (mono_pick (mono_app mono_up mono_up))) (en_callG (ok_check_free T) bg_check_free_1_ (lits_ok rfl) (mf_check_free) mono_up mono_up tk (hr.mono (by decide)) (an_up (av_cons (ev_fz (ev_n 0)) av_nil)) kn_nil))
    (bn_up (bv_nox (bv_cons (sv_for PassesOwn.never rfl (iv_tup (ev_gdat T.c_ENDS)) (gv_n 1 sc_peeled.nd) (bv_one (sv_for PassesOwn.never rfl (iv_tup (ev_gdat T.c_ENDS)) (gv_n 2 sc_peeled.nd) (bv_cons (sv_n 3 sc_peeled.nd (ev_slice (ev_n 0) (ov_some (ev_fn call_len fnd_len rfl T.b_len PySem.boot_len (av_cons (ev_n 1) av_nil))) (ov_some (ev_sub (ev_fn call_len fnd_len rfl T.b_len PySem.boot_len (av_cons (ev_n 0) av_nil)) (ev_fn call_len fnd_len rfl T.b_len PySem.boot_len (av_cons (ev_n 2) av_nil))))))
    (bv_one (sv_if (tv_w (wv_and (tv_val (ev_starts (ev_n 0) (av_cons (ev_n 1) av_nil))) (wv_and (tv_val (ev_ends (ev_n 0) (av_cons (ev_n 2) av_nil))) (wv_one_and (tv_cmp op_isnX opd_isn (nomark _) (ev_call (ok_halved T) (hr.mono (by decide)) (av_cons (ev_fz (ev_n 3)) av_nil)) ev_non))))) (bv_one (sv_ret (ev_tupE (av_cons (ev_fz (ev_n 1)) (av_cons (ev_fz (ev_call (ok_halved T) (hr.mono (by decide)) (av_cons (ev_fz (ev_n 3)) av_nil))) (av_cons (ev_fz (ev_n 2)) av_nil)))))) bv_nil))))))
    (bv_one (sv_ret ev_non))))))))
theorem fok__law_cell (T : Tx K mg) (f : Addr) (fd : FuncData) (F : Fun K "_law_cell" "_law_cell" s__law_cell f fd) : FnOk P w K mg base CX0 1 f fd ["script", "k"] (spV K F__law_cell) := fn_ok (N := N__law_cell) (body := B__law_cell) F sc__law_cell rfl fun cdv A outer s H E hr =>
    (bv_one (sv_ret (ev_ifE (tv_cmp op_lt opd_ib (nomark _) (ev_n 1) (ev_fn call_len fnd_len rfl T.b_len PySem.boot_len (av_cons (ev_n 0) av_nil))) (ev_item (fun _ _ => rfl) (ev_n 0) (ev_n 1)) (ev_add (ev_mul ev_int (ev_n 1)) (ev_mod (ev_ty call_int1 fnd_int rfl T.b_int PyProof.Rows.boot_int (av_cons (ev_fn (cr_sum rfl) fnd_sum rfl T.b_sum PyProof.Rows.boot_sum (av_cons (ev_slice (ev_n 0) ov_none (ov_some ev_int)) av_nil)) av_nil)) ev_int)))))
theorem ok__law_cell (T : Tx K mg) : DefOk P w K mg base "_law_cell" 1 ["script", "k"] F__law_cell := def_of T.d__law_cell (fok__law_cell T) (fun _ _ _ _ _ _ us hl => match us, hl with | [_, _], _ => rfl)
theorem fok__law_box (T : Tx K mg) (f : Addr) (fd : FuncData) (F : Fun K "_law_box" "_law_box" s__law_box f fd) : FnOk P w K mg base CX0 1 f fd ["great"] (spV K F__law_box) := fn_ok (N := N__law_box) (body := B__law_box) F sc__law_box rfl fun cdv A outer s H E hr =>
    (bv_one (sv_ret (ev_lstE (av_cons (ev_fz (ev_fn call_abs fnd_abs rfl T.b_abs PyProof.Rows.boot_abs (av_cons (ev_n 0) av_nil))) (av_cons (ev_fz (ev_cmp op_ge opd_ib (nomark _) (ev_fn call_abs fnd_abs rfl T.b_abs PyProof.Rows.boot_abs (av_cons (ev_n 0) av_nil)) (ev_pow ev_int ev_int))) (av_cons (ev_fz (ev_mod (ev_ty call_int1 fnd_int rfl T.b_int PyProof.Rows.boot_int (av_cons (ev_fn call_abs fnd_abs rfl T.b_abs PyProof.Rows.boot_abs (av_cons (ev_n 0) av_nil)) av_nil)) ev_int)) (av_cons (ev_fz ev_int) av_nil)))))))
theorem ok__law_box (T : Tx K mg) : DefOk P w K mg base "_law_box" 1 ["great"] F__law_box := def_of T.d__law_box (fok__law_box T) (fun _ _ _ _ _ _ us hl => match us, hl with | [_], _ => rfl)
theorem fok__law_take (T : Tx K mg) (f : Addr) (fd : FuncData) (F : Fun K "_law_take" "_law_take" s__law_take f fd) : FnOk P w K mg base CX0 1 f fd ["box", "many"] (spV K F__law_take) := fn_ok (N := N__law_take) (body := B__law_take) F sc__law_take rfl fun cdv A outer s H E hr =>
    (bv_cons (sv_if (tv_w (wv_and (tv_val (ev_item (fun _ _ => rfl) (ev_n 0) ev_int)) (wv_one_and (tv_cmp op_gt opd_ib (nomark _) (ev_item (fun _ _ => rfl) (ev_n 0) ev_int) ev_int)))) (bv_cons (sv_n 2 sc__law_take.nd (ev_mod (ev_ty call_int1 fnd_int rfl T.b_int PyProof.Rows.boot_int (av_cons (ev_item (fun _ _ => rfl) (ev_n 0) ev_int) av_nil)) (ev_n 1)))
    (bv_cons (sv_put (pv 0) ev_int (ev_fdiv (ev_item (fun _ _ => rfl) (ev_n 0) ev_int) (ev_n 1)))
    (bv_one (sv_ret (ev_n 2))))) bv_nil)
    (bv_cons (sv_put (pv 0) ev_int (ev_add (ev_item (fun _ _ => rfl) (ev_n 0) ev_int) ev_int))
    (bv_cons (sv_n 3 sc__law_take.nd (ev_mod (ev_ty call_int1 fnd_int rfl T.b_int PyProof.Rows.boot_int (av_cons (ev_pow (ev_add (ev_add (ev_item (fun _ _ => rfl) (ev_n 0) ev_int) (ev_mul ev_int (ev_item (fun _ _ => rfl) (ev_n 0) ev_int))) ev_int) ev_int) av_nil)) ev_int))
    (bv_one (sv_ret (ev_mod (ev_ty call_int1 fnd_int rfl T.b_int PyProof.Rows.boot_int (av_cons (ev_fdiv (ev_mod (ev_ty call_int1 fnd_int rfl T.b_int PyProof.Rows.boot_int (av_cons (ev_pow (ev_add (ev_mul (ev_n 3) ev_int) (ev_mul ev_int (ev_item (fun _ _ => rfl) (ev_n 0) ev_int))) ev_int) av_nil)) ev_int) ev_int) av_nil)) (ev_n 1)))))))
theorem ok__law_take (T : Tx K mg) : DefOk P w K mg base "_law_take" 1 ["box", "many"] F__law_take := def_of T.d__law_take (fok__law_take T) (fun _ _ _ _ _ _ us hl => match us, hl with | [_, _], _ => rfl)
theorem ok__law_same (T : Tx K mg) : ∀ n : Nat, DefOk P w K mg base "_law_same" (1 + n) ["told", "due"] (F__law_same n)
  | 0 => def_of T.d__law_same (fun f fd F => by unfold F__law_same; exact fn_none F sc__law_same) (fun _ _ _ _ _ _ us hl => match us, hl with | [_, _], _ => rfl)
  | n + 1 => def_of T.d__law_same (fun f fd F => fn_ok (N := N__law_same) (body := B__law_same (F__law_same n)) F sc__law_same rfl fun cdv A outer s H E hr =>
    (bv_cons (sv_if (tv_w (wv_or (tv_cmp op_isX opd_is (nomark _) (ev_n 1) ev_non) (wv_one_or (tv_val (ev_fn call_isi fnd_isi rfl T.b_isinstance PyProof.Rows.boot_isinstance (av_cons (ev_n 1) (av_cons (ev_cls rfl T.b_bool (by decide +kernel)) av_nil))))))) (bv_one (sv_ret (ev_ifE (tv_cmp op_isX opd_is (nomark _) (ev_n 1) ev_non) (ev_cmp op_isX opd_is (nomark _) (ev_n 0) ev_non) (ev_and (ev_fn call_isi fnd_isi rfl T.b_isinstance PyProof.Rows.boot_isinstance (av_cons (ev_n 0) (av_cons (ev_cls rfl T.b_bool (by decide +kernel)) av_nil))) (ev_one (ev_cmp (op_eqX (hr.units)) opd_eq (nomark _) (ev_cmp op_isX opd_is (nomark _) (ev_n 0) ev_bl) (ev_cmp op_isX opd_is (nomark _) (ev_n 1) ev_bl))))))) bv_nil)
    (bv_cons (sv_if (tv_val (ev_fn call_isi fnd_isi rfl T.b_isinstance PyProof.Rows.boot_isinstance (av_cons (ev_n 1) (av_cons (ev_cls rfl T.b_int (by decide +kernel)) av_nil)))) (bv_one (sv_ret (ev_and (ev_fn call_isi fnd_isi rfl T.b_isinstance PyProof.Rows.boot_isinstance (av_cons (ev_n 0) (av_cons (ev_cls rfl T.b_int (by decide +kernel)) av_nil))) (ev_and (ev_not (ev_fn call_isi fnd_isi rfl T.b_isinstance PyProof.Rows.boot_isinstance (av_cons (ev_n 0) (av_cons (ev_cls rfl T.b_bool (by decide +kernel)) av_nil)))) (ev_one (ev_cmp (op_eqX (hr.units)) opd_eq (nomark _) (ev_sub (ev_ty call_int1 fnd_int rfl T.b_int PyProof.Rows.boot_int (av_cons (ev_n 0) av_nil)) (ev_n 1)) ev_int)))))) bv_nil)
    (bv_cons (sv_if (tv_val (ev_fn call_isi fnd_isi rfl T.b_isinstance PyProof.Rows.boot_isinstance (av_cons (ev_n 1) (av_cons (ev_cls rfl T.b_str (by decide +kernel)) av_nil)))) (bv_one (sv_ret (ev_and (ev_fn call_isi fnd_isi rfl T.b_isinstance PyProof.Rows.boot_isinstance (av_cons (ev_n 0) (av_cons (ev_cls rfl T.b_str (by decide +kernel)) av_nil))) (ev_and (ev_cmp (op_eqX (hr.units)) opd_eq (nomark _) (ev_fn call_len fnd_len rfl T.b_len PySem.boot_len (av_cons (ev_n 0) av_nil)) (ev_fn call_len fnd_len rfl T.b_len PySem.boot_len (av_cons (ev_n 1) av_nil))) (ev_one (ev_cmp (op_eqX (hr.units)) opd_eq (nomark _) (ev_comp (own := [("k", 2)]) rfl sc__law_same.nd (blkOk_by (N := N__law_same) (sc := defScope s__law_same) (by decide +kernel)) (iv_range1 rfl T.b_range (ev_fn call_len fnd_len rfl T.b_len PySem.boot_len (av_cons (ev_n 1) av_nil))) (fun _ _ _ _ _ => (gv_n 2 sc__law_same.nd)) (fun _ _ _ _ _ => tsv_one (tv_cmp (op_neX (hr.units)) opd_ne (nomark _) (ev_slice (ev_n 0) (ov_some (ev_n 2)) (ov_some (ev_add (ev_n 2) ev_int))) (ev_item (fun _ _ => rfl) (ev_n 1) (ev_n 2)))) (fun _ _ _ _ _ => (ev_n 2))) (ev_lstE av_nil))))))) bv_nil)
    (bv_cons (sv_if (tv_val (ev_fn call_isi fnd_isi rfl T.b_isinstance PyProof.Rows.boot_isinstance (av_cons (ev_n 1) (av_cons (ev_cls rfl T.b_dict (by decide +kernel)) av_nil)))) (bv_one (sv_ret (ev_and (ev_fn call_isi fnd_isi rfl T.b_isinstance PyProof.Rows.boot_isinstance (av_cons (ev_n 0) (av_cons (ev_cls rfl T.b_dict (by decide +kernel)) av_nil))) (ev_one (ev_call (ok__law_same T n) hr (av_cons (ev_fz (ev_items rfl (ev_n 0) rfl T.b_list PyProof.Rows.boot_list)) (av_cons (ev_fz (ev_items rfl (ev_n 1) rfl T.b_list PyProof.Rows.boot_list)) av_nil))))))) bv_nil)
    (bv_cons (sv_if (tv_w (wv_or (tv_cmp (op_neX (hr.units)) opd_ne (nomark _) (ev_fn call_isi fnd_isi rfl T.b_isinstance PyProof.Rows.boot_isinstance (av_cons (ev_n 0) (av_cons (ev_cls rfl T.b_list (by decide +kernel)) av_nil))) (ev_fn call_isi fnd_isi rfl T.b_isinstance PyProof.Rows.boot_isinstance (av_cons (ev_n 1) (av_cons (ev_cls rfl T.b_list (by decide +kernel)) av_nil)))) (wv_one_or (tv_cmp (op_neX (hr.units)) opd_ne (nomark _) (ev_fn call_isi fnd_isi rfl T.b_isinstance PyProof.Rows.boot_isinstance (av_cons (ev_n 0) (av_cons (ev_cls rfl T.b_tuple (by decide +kernel)) av_nil))) (ev_fn call_isi fnd_isi rfl T.b_isinstance PyProof.Rows.boot_isinstance (av_cons (ev_n 1) (av_cons (ev_cls rfl T.b_tuple (by decide +kernel)) av_nil))))))) (bv_one (sv_ret ev_bl)) bv_nil)
    (bv_cons (sv_if (tv_w (wv_or (tv_not (tv_val (ev_isi2 rfl T.b_isinstance (pe_cls rfl T.b_list (by decide +kernel)) (pe_cls rfl T.b_tuple (by decide +kernel)) (ev_n 0)))) (wv_one_or (tv_cmp (op_neX (hr.units)) opd_ne (nomark _) (ev_fn call_len fnd_len rfl T.b_len PySem.boot_len (av_cons (ev_n 0) av_nil)) (ev_fn call_len fnd_len rfl T.b_len PySem.boot_len (av_cons (ev_n 1) av_nil)))))) (bv_one (sv_ret ev_bl)) bv_nil)
    (bv_one (sv_ret (ev_cmp (op_eqX (hr.units)) opd_eq (nomark _) (ev_comp (own := [("k", 2)]) rfl sc__law_same.nd (blkOk_by (N := N__law_same) (sc := defScope s__law_same) (by decide +kernel)) (iv_range1 rfl T.b_range (ev_fn call_len fnd_len rfl T.b_len PySem.boot_len (av_cons (ev_n 1) av_nil))) (fun _ _ _ _ _ => (gv_n 2 sc__law_same.nd)) (fun _ _ _ _ _ => tsv_one (tv_not (tv_val (ev_call (ok__law_same T n) hr (av_cons (ev_fz (ev_item (fun _ _ => rfl) (ev_n 0) (ev_n 2))) (av_cons (ev_fz (ev_item (fun _ _ => rfl) (ev_n 1) (ev_n 2))) av_nil)))))) (fun _ _ _ _ _ => (ev_n 2))) (ev_lstE av_nil))))))))))) (fun _ _ _ _ _ _ us hl => match us, hl with | [_, _], _ => rfl)
theorem fok__law_near (T : Tx K mg) (f : Addr) (fd : FuncData) (F : Fun K "_law_near" "_law_near" s__law_near f fd) : FnOk P w K mg base CX0 2 f fd ["box", "word", "letters"] (spV K F__law_near) := fn_ok (N := N__law_near) (body := B__law_near) F sc__law_near rfl fun cdv A outer s H E hr =>
    (bv_cons (sv_par3 (fs := _) (i := 3) (j := 4) (l := 5) rfl sc__law_near.nd rfl rfl rfl (by decide) (by decide) (by decide) rfl rfl rfl (ao_cons (ev_call (ok__law_take T) (hr.mono (by decide)) (av_cons (ev_n 0) (av_cons (ev_fz (ev_add (ev_fn call_len fnd_len rfl T.b_len PySem.boot_len (av_cons (ev_n 1) av_nil)) ev_int)) av_nil))) (ao_cons (ev_call (ok__law_take T) (hr.mono (by decide)) (av_cons (ev_n 0) (av_cons (ev_fz ev_int) av_nil))) (ao_cons (ev_item (fun _ _ => rfl) (ev_str (l := [97, 98, 99, 100]) (by decide +kernel)) (ev_call (ok__law_take T) (hr.mono (by decide)) (av_cons (ev_n 0) (av_cons (ev_fz (ev_n 2)) av_nil)))) ao_nil))) rfl)
    (bv_cons (sv_if (tv_cmp (op_eqX (hr.units)) opd_eq (nomark _) (ev_n 4) ev_int) (bv_one (sv_ret (ev_add (ev_add (ev_slice (ev_n 1) ov_none (ov_some (ev_n 3))) (ev_n 5)) (ev_slice (ev_n 1) (ov_some (ev_add (ev_n 3) ev_int)) ov_none)))) bv_nil)
    (bv_cons (sv_if (tv_w (wv_or (tv_cmp (op_eqX (hr.units)) opd_eq (nomark _) (ev_n 4) ev_int) (wv_one_or (tv_cmp (op_eqX (hr.units)) opd_eq (nomark _) (ev_n 1) (ev_str (l := []) (by decide +kernel)))))) (bv_one (sv_ret (ev_add (ev_add (ev_slice (ev_n 1) ov_none (ov_some (ev_n 3))) (ev_n 5)) (ev_slice (ev_n 1) (ov_some (ev_n 3)) ov_none)))) bv_nil)
    (bv_cons (sv_if (tv_cmp (op_eqX (hr.units)) opd_eq (nomark _) (ev_n 4) ev_int) (bv_one (sv_ret (ev_add (ev_slice (ev_n 1) ov_none (ov_some (ev_n 3))) (ev_slice (ev_n 1) (ov_some (ev_add (ev_n 3) ev_int)) ov_none)))) bv_nil)
    (bv_one (sv_ret (ev_ifE (tv_cmp (op_eqX (hr.units)) opd_eq (nomark _) (ev_n 4) ev_int) (ev_add (ev_add (ev_add (ev_slice (ev_n 1) ov_none (ov_some (ev_n 3))) (ev_slice (ev_n 1) (ov_some (ev_add (ev_n 3) ev_int)) (ov_some (ev_add (ev_n 3) ev_int)))) (ev_slice (ev_n 1) (ov_some (ev_n 3)) (ov_some (ev_add (ev_n 3) ev_int)))) (ev_slice (ev_n 1) (ov_some (ev_add (ev_n 3) ev_int)) ov_none)) (ev_n 1))))))))
theorem ok__law_near (T : Tx K mg) : DefOk P w K mg base "_law_near" 2 ["box", "word", "letters"] F__law_near := def_of T.d__law_near (fok__law_near T) (fun _ _ _ _ _ _ us hl => match us, hl with | [_, _, _], _ => rfl)
theorem fok__law_odd_word (T : Tx K mg) (f : Addr) (fd : FuncData) (F : Fun K "_law_odd_word" "_law_odd_word" s__law_odd_word f fd) : FnOk P w K mg base CX0 2 f fd ["box"] (spV K F__law_odd_word) := fn_ok (N := N__law_odd_word) (body := B__law_odd_word) F sc__law_odd_word rfl fun cdv A outer s H E hr =>
    (bv_one (sv_ret (ev_item (fun _ _ => rfl) (ev_lstE (av_cons (ev_fz ev_non) (av_cons (ev_fz ev_int) (av_cons (ev_fz ev_bl) (av_cons (ev_fz (ev_str (l := [97, 98, 101]) (by decide +kernel))) (av_cons (ev_fz (ev_str (l := [65]) (by decide +kernel))) (av_cons (ev_fz (ev_lstE (av_cons (ev_fz (ev_str (l := [97]) (by decide +kernel))) av_nil))) (av_cons (ev_fz (ev_tupE (av_cons (ev_fz (ev_str (l := [97]) (by decide +kernel))) av_nil))) (av_cons (ev_fz ev_dict0) (av_cons (ev_fz (ev_str (l := [97, 32, 98]) (by decide +kernel))) (av_cons (ev_fz (ev_mulS (ev_str (l := [97]) (by decide +kernel)) ev_int)) av_nil))))))))))) (ev_call (ok__law_take T) (hr.mono (by decide)) (av_cons (ev_n 0) (av_cons (ev_fz ev_int) av_nil))))))
theorem ok__law_odd_word (T : Tx K mg) : DefOk P w K mg base "_law_odd_word" 2 ["box"] F__law_odd_word := def_of T.d__law_odd_word (fok__law_odd_word T) (fun _ _ _ _ _ _ us hl => match us, hl with | [_], _ => rfl)
theorem fok__law_odd (T : Tx K mg) (f : Addr) (fd : FuncData) (F : Fun K "_law_odd" "_law_odd" s__law_odd f fd) : FnOk P w K mg base CX0 1 f fd ["index"] (spV K F__law_odd) := fn_ok (N := N__law_odd) (body := B__law_odd) F sc__law_odd rfl fun cdv A outer s H E hr =>
    (bv_cons (sv_n 1 sc__law_odd.nd ev_int)
    (bv_cons (sv_for PassesOwn.never rfl (iv_range1 rfl T.b_range ev_int) (gv_n 2 sc__law_odd.nd) (bv_one (sv_n 1 sc__law_odd.nd (ev_add (ev_n 1) (ev_band (ev_shr (ev_n 0) (ev_n 2)) ev_int)))))
    (bv_one (sv_ret (ev_cmp (op_eqX (hr.units)) opd_eq (nomark _) (ev_band (ev_n 1) ev_int) ev_int)))))
theorem ok__law_odd (T : Tx K mg) : DefOk P w K mg base "_law_odd" 1 ["index"] F__law_odd := def_of T.d__law_odd (fok__law_odd T) (fun _ _ _ _ _ _ us hl => match us, hl with | [_], _ => rfl)
theorem fok__law_part (T : Tx K mg) (f : Addr) (fd : FuncData) (F : Fun K "_law_part" "_law_part" s__law_part f fd) : FnOk P w K mg base CX0 2 f fd ["index", "size"] (spV K F__law_part) := fn_ok (N := N__law_part) (body := B__law_part) F sc__law_part rfl fun cdv A outer s H E hr =>
    (bv_one (sv_ret (ev_join (ev_str (l := []) (by decide +kernel)) (av_cons (ev_comp (own := [("k", 2)]) rfl sc__law_part.nd (blkOk_by (N := N__law_part) (sc := defScope s__law_part) (by decide +kernel)) (iv_range1 rfl T.b_range (ev_n 1)) (fun _ _ _ _ _ => (gv_n 2 sc__law_part.nd)) (fun _ _ _ _ _ => tsv_nil) (fun _ _ _ _ _ => (ev_item (fun _ _ => rfl) (ev_str (l := [97, 98]) (by decide +kernel)) (ev_ty call_int1 fnd_int rfl T.b_int PyProof.Rows.boot_int (av_cons (ev_call (ok__law_odd T) (hr.mono (by decide)) (av_cons (ev_fz (ev_add (ev_n 0) (ev_n 2))) av_nil)) av_nil))))) av_nil))))
theorem ok__law_part (T : Tx K mg) : DefOk P w K mg base "_law_part" 2 ["index", "size"] F__law_part := def_of T.d__law_part (fok__law_part T) (fun _ _ _ _ _ _ us hl => match us, hl with | [_, _], _ => rfl)
theorem fok__law_counts (T : Tx K mg) (f : Addr) (fd : FuncData) (F : Fun K "_law_counts" "_law_counts" s__law_counts f fd) : FnOk P w K mg base CX0 2 f fd ["index"] (spV K F__law_counts) := fn_ok (N := N__law_counts) (body := B__law_counts) F sc__law_counts rfl fun cdv A outer s H E hr =>
    (bv_cons (sv_n 1 sc__law_counts.nd (ev_fdiv (ev_n 0) ev_int))
    (bv_cons (sv_n 2 sc__law_counts.nd (ev_fz (ev_ifE (tv_w (wv_and (tv_tru (ev_band (ev_n 0) ev_int)) (wv_one_and (tv_val (ev_call (ok__law_odd T) (hr.mono (by decide)) (av_cons (ev_fz (ev_sub (ev_n 0) ev_int)) av_nil)))))) ev_int ev_int)))
    (bv_one (sv_ret (ev_tupE (av_cons (ev_fz (ev_sub (ev_sub (ev_n 0) (ev_n 1)) (ev_n 2))) (av_cons (ev_fz (ev_add (ev_n 1) (ev_n 2))) av_nil)))))))
theorem ok__law_counts (T : Tx K mg) : DefOk P w K mg base "_law_counts" 2 ["index"] F__law_counts := def_of T.d__law_counts (fok__law_counts T) (fun _ _ _ _ _ _ us hl => match us, hl with | [_], _ => rfl)
theorem bg_thue_part_0_length_index : BindG "thue_part" s_thue_part ["index", "length"] 0 ["length", "index"] [.inl 1, .inl 0] 0 := .inl ⟨rfl, fun _ _ _ _ _ _ us ws h1 h2 => match us, h1, ws, h2 with | [], _, [_, _], _ => rfl⟩
theorem bg_thue_part_2_ : BindG "thue_part" s_thue_part ["index", "length"] 2 [] [.inl 0, .inl 1] 0 := .inl ⟨rfl, fun _ _ _ _ _ _ us ws h1 h2 => match us, h1, ws, h2 with | [_, _], _, [], _ => rfl⟩
theorem bg_thue_prefix_0_length : BindG "thue_prefix" s_thue_prefix ["length"] 0 ["length"] [.inl 0] 0 := .inl ⟨rfl, fun _ _ _ _ _ _ us ws h1 h2 => match us, h1, ws, h2 with | [], _, [_], _ => rfl⟩
theorem bg_thue_prefix_1_ : BindG "thue_prefix" s_thue_prefix ["length"] 1 [] [.inl 0] 0 := .inl ⟨rfl, fun _ _ _ _ _ _ us ws h1 h2 => match us, h1, ws, h2 with | [_], _, [], _ => rfl⟩
theorem bg_thue_letter_0_index : BindG "thue_letter" s_thue_letter ["index"] 0 ["index"] [.inl 0] 0 := .inl ⟨rfl, fun _ _ _ _ _ _ us ws h1 h2 => match us, h1, ws, h2 with | [], _, [_], _ => rfl⟩
theorem bg_thue_counts_0_index : BindG "thue_counts" s_thue_counts ["index"] 0 ["index"] [.inl 0] 0 := .inl ⟨rfl, fun _ _ _ _ _ _ us ws h1 h2 => match us, h1, ws, h2 with | [], _, [_], _ => rfl⟩
theorem bg_thue_letter_1_ : BindG "thue_letter" s_thue_letter ["index"] 1 [] [.inl 0] 0 := .inl ⟨rfl, fun _ _ _ _ _ _ us ws h1 h2 => match us, h1, ws, h2 with | [_], _, [], _ => rfl⟩
theorem bg_thue_counts_1_ : BindG "thue_counts" s_thue_counts ["index"] 1 [] [.inl 0] 0 := .inl ⟨rfl, fun _ _ _ _ _ _ us ws h1 h2 => match us, h1, ws, h2 with | [_], _, [], _ => rfl⟩
theorem mo__law_asked (mg : Str → Option Value) : Mono (B__law_asked mg) := (mono_try (mono_seq (mono_if mono_up (mono_ret (mono_lst (mono_cons mono_up (mono_cons (mono_ifE mono_up (mono_call (mf_thue_part) (mono_pick (mono_app mono_up (mono_cons mono_up (mono_cons mono_up mono_up))))) (mono_call (mf_thue_part) (mono_pick (mono_app mono_up mono_up)))) mono_up)))) mono_up) (mono_seq (mono_if mono_up (mono_ret (mono_lst (mono_cons mono_up (mono_cons (mono_ifE mono_up (mono_call (mf_thue_prefix) (mono_pick (mono_app mono_up (mono_cons mono_up mono_up)))) (mono_call (mf_thue_prefix) (mono_pick (mono_app mono_up mono_up)))) mono_up)))) mono_up) (mono_seq mono_up (mono_ret (mono_lst (mono_cons mono_up (mono_cons (mono_ifE mono_up (mono_or (mono_is (mono_call (mf_thue_letter) (mono_pick (mono_app mono_up (mono_cons mono_up mono_up))))) (mono_is (mono_call (mf_thue_counts) (mono_pick (mono_app mono_up (mono_cons mono_up mono_up)))))) (mono_or (mono_is (mono_call (mf_thue_letter) (mono_pick (mono_app mono_up mono_up)))) (mono_is (mono_call (mf_thue_counts) (mono_pick (mono_app mono_up mono_up)))))) mono_up))))))))
theorem fok__law_asked (T : Tx K mg) (f : Addr) (fd : FuncData) (F : Fun K "_law_asked" "_law_asked" s__law_asked f fd) : FnOk P w K mg base CX0 5 f fd ["word", "first", "second", "by_name"] (spV K F__law_asked) := fn_okNV (N := N__law_asked) (body := B__law_asked mg) F sc__law_asked (mo__law_asked _) T.h__law_asked fun cdv A outer s H E hr =>
    (bn_one (sn_try T.ect sc__law_asked.nd rfl rfl takesN (mono_seq (mono_if mono_up (mono_ret (mono_lst (mono_cons mono_up (mono_cons (mono_ifE mono_up (mono_call (mf_thue_part) (mono_pick (mono_app mono_up (mono_cons mono_up (mono_cons mono_up mono_up))))) (mono_call (mf_thue_part) (mono_pick (mono_app mono_up mono_up)))) mono_up)))) mono_up) (mono_seq (mono_if mono_up (mono_ret (mono_lst (mono_cons mono_up (mono_cons (mono_ifE mono_up (mono_call (mf_thue_prefix) (mono_pick (mono_app mono_up (mono_cons mono_up mono_up)))) (mono_call (mf_thue_prefix) (mono_pick (mono_app mono_up mono_up)))) mono_up)))) mono_up) (mono_seq mono_up (mono_ret (mono_lst (mono_cons mono_up (mono_cons (mono_ifE mono_up (mono_or (mono_is (mono_call (mf_thue_letter) (mono_pick (mono_app mono_up (mono_cons mono_up mono_up))))) (mono_is (mono_call (mf_thue_counts) (mono_pick (mono_app mono_up (mono_cons mono_up mono_up)))))) (mono_or (mono_is (mono_call (mf_thue_letter) (mono_pick (mono_app mono_up mono_up)))) (mono_is (mono_call (mf_thue_counts) (mono_pick (mono_app mono_up mono_up)))))) mono_up))))))) (fun W1 pn1 xe1 tk1 => (bn_cons (mono_if mono_up (mono_ret (mono_lst (mono_cons mono_up (mono_cons (mono_ifE mono_up (mono_call (mf_thue_part) (mono_pick (mono_app mono_up (mono_cons mono_up (mono_cons mono_up mono_up))))) (mono_call (mf_thue_part) (mono_pick (mono_app mono_up mono_up)))) mono_up)))) mono_up) (mono_seq (mono_if mono_up (mono_ret (mono_lst (mono_cons mono_up (mono_cons (mono_ifE mono_up (mono_call (mf_thue_prefix) (mono_pick (mono_app mono_up (mono_cons mono_up mono_up)))) (mono_call (mf_thue_prefix) (mono_pick (mono_app mono_up mono_up)))) mono_up)))) mono_up) (mono_seq mono_up (mono_ret (mono_lst (mono_cons mono_up (mono_cons (mono_ifE mono_up (mono_or (mono_is (mono_call (mf_thue_letter) (mono_pick (mono_app mono_up (mono_cons mono_up mono_up))))) (mono_is (mono_call (mf_thue_counts) (mono_pick (mono_app mono_up (mono_cons mono_up mono_up)))))) (mono_or (mono_is (mono_call (mf_thue_letter) (mono_pick (mono_app mono_up mono_up)))) (mono_is (mono_call (mf_thue_counts) (mono_pick (mono_app mono_up mono_up)))))) mono_up)))))) (sn_if mono_up (mono_ret (mono_lst (mono_cons mono_up (mono_cons (mono_ifE mono_up (mono_call (mf_thue_part) (mono_pick (mono_app mono_up (mono_cons mono_up (mono_cons mono_up mono_up))))) (mono_call (mf_thue_part) (mono_pick (mono_app mono_up mono_up)))) mono_up)))) mono_up (tn_up (tv_cmp (op_eqX (hr.units)) opd_eq (nomark _) (ev_n 0) (ev_str (l := [112, 97, 114, 116]) (by decide +kernel)))) (bn_one (sn_ret (mono_lst (mono_cons mono_up (mono_cons (mono_ifE mono_up (mono_call (mf_thue_part) (mono_pick (mono_app mono_up (mono_cons mono_up (mono_cons mono_up mono_up))))) (mono_call (mf_thue_part) (mono_pick (mono_app mono_up mono_up)))) mono_up))) (en_lst (mono_cons mono_up (mono_cons (mono_ifE mono_up (mono_call (mf_thue_part) (mono_pick (mono_app mono_up (mono_cons mono_up (mono_cons mono_up mono_up))))) (mono_call (mf_thue_part) (mono_pick (mono_app mono_up mono_up)))) mono_up)) (an_cons mono_up (mono_cons (mono_ifE mono_up (mono_call (mf_thue_part) (mono_pick (mono_app mono_up (mono_cons mono_up (mono_cons mono_up mono_up))))) (mono_call (mf_thue_part) (mono_pick (mono_app mono_up mono_up)))) mono_up) (en_up (ev_fz (ev_str (l := [116, 111, 108, 100]) (by decide +kernel)))) (an_cons (mono_ifE mono_up (mono_call (mf_thue_part) (mono_pick (mono_app mono_up (mono_cons mono_up (mono_cons mono_up mono_up))))) (mono_call (mf_thue_part) (mono_pick (mono_app mono_up mono_up)))) mono_up (en_ifE mono_up (mono_call (mf_thue_part) (mono_pick (mono_app mono_up (mono_cons mono_up (mono_cons mono_up mono_up))))) (mono_call (mf_thue_part) (mono_pick (mono_app mono_up mono_up))) (tn_up (tv_val (ev_n 3))) (en_callG0 (ok_thue_part T) bg_thue_part_0_length_index (lits_ok rfl) (mf_thue_part) (mono_cons mono_up (mono_cons mono_up mono_up)) tk1 (hr.mono (by decide)) (kn_cons mono_up (mono_cons mono_up mono_up) (en_up (ev_fz (ev_n 2))) (kn_cons mono_up mono_up (en_up (ev_fz (ev_n 1))) kn_nil))) (en_callG (ok_thue_part T) bg_thue_part_2_ (lits_ok rfl) (mf_thue_part) mono_up mono_up tk1 (hr.mono (by decide)) (an_up (av_cons (ev_fz (ev_n 1)) (av_cons (ev_fz (ev_n 2)) av_nil))) kn_nil)) (an_up av_nil))))) (mono_ret (mono_lst (mono_cons mono_up (mono_cons (mono_ifE mono_up (mono_call (mf_thue_part) (mono_pick (mono_app mono_up (mono_cons mono_up (mono_cons mono_up mono_up))))) (mono_call (mf_thue_part) (mono_pick (mono_app mono_up mono_up)))) mono_up))))) bn_nil)
    (bn_cons (mono_if mono_up (mono_ret (mono_lst (mono_cons mono_up (mono_cons (mono_ifE mono_up (mono_call (mf_thue_prefix) (mono_pick (mono_app mono_up (mono_cons mono_up mono_up)))) (mono_call (mf_thue_prefix) (mono_pick (mono_app mono_up mono_up)))) mono_up)))) mono_up) (mono_seq mono_up (mono_ret (mono_lst (mono_cons mono_up (mono_cons (mono_ifE mono_up (mono_or (mono_is (mono_call (mf_thue_letter) (mono_pick (mono_app mono_up (mono_cons mono_up mono_up))))) (mono_is (mono_call (mf_thue_counts) (mono_pick (mono_app mono_up (mono_cons mono_up mono_up)))))) (mono_or (mono_is (mono_call (mf_thue_letter) (mono_pick (mono_app mono_up mono_up)))) (mono_is (mono_call (mf_thue_counts) (mono_pick (mono_app mono_up mono_up)))))) mono_up))))) (sn_if mono_up (mono_ret (mono_lst (mono_cons mono_up (mono_cons (mono_ifE mono_up (mono_call (mf_thue_prefix) (mono_pick (mono_app mono_up (mono_cons mono_up mono_up)))) (mono_call (mf_thue_prefix) (mono_pick (mono_app mono_up mono_up)))) mono_up)))) mono_up (tn_up (tv_cmp (op_eqX (hr.units)) opd_eq (nomark _) (ev_n 0) (ev_str (l := [112, 114, 101, 102, 105, 120]) (by decide +kernel)))) (bn_one (sn_ret (mono_lst (mono_cons mono_up (mono_cons (mono_ifE mono_up (mono_call (mf_thue_prefix) (mono_pick (mono_app mono_up (mono_cons mono_up mono_up)))) (mono_call (mf_thue_prefix) (mono_pick (mono_app mono_up mono_up)))) mono_up))) (en_lst (mono_cons mono_up (mono_cons (mono_ifE mono_up (mono_call (mf_thue_prefix) (mono_pick (mono_app mono_up (mono_cons mono_up mono_up)))) (mono_call (mf_thue_prefix) (mono_pick (mono_app mono_up mono_up)))) mono_up)) (an_cons mono_up (mono_cons (mono_ifE mono_up (mono_call (mf_thue_prefix) (mono_pick (mono_app mono_up (mono_cons mono_up mono_up)))) (mono_call (mf_thue_prefix) (mono_pick (mono_app mono_up mono_up)))) mono_up) (en_up (ev_fz (ev_str (l := [116, 111, 108, 100]) (by decide +kernel)))) (an_cons (mono_ifE mono_up (mono_call (mf_thue_prefix) (mono_pick (mono_app mono_up (mono_cons mono_up mono_up)))) (mono_call (mf_thue_prefix) (mono_pick (mono_app mono_up mono_up)))) mono_up (en_ifE mono_up (mono_call (mf_thue_prefix) (mono_pick (mono_app mono_up (mono_cons mono_up mono_up)))) (mono_call (mf_thue_prefix) (mono_pick (mono_app mono_up mono_up))) (tn_up (tv_val (ev_n 3))) (en_callG0 (ok_thue_prefix T) bg_thue_prefix_0_length (lits_ok rfl) (mf_thue_prefix) (mono_cons mono_up mono_up) tk1 (hr.mono (by decide)) (kn_cons mono_up mono_up (en_up (ev_fz (ev_n 2))) kn_nil)) (en_callG (ok_thue_prefix T) bg_thue_prefix_1_ (lits_ok rfl) (mf_thue_prefix) mono_up mono_up tk1 (hr.mono (by decide)) (an_up (av_cons (ev_fz (ev_n 2)) av_nil)) kn_nil)) (an_up av_nil))))) (mono_ret (mono_lst (mono_cons mono_up (mono_cons (mono_ifE mono_up (mono_call (mf_thue_prefix) (mono_pick (mono_app mono_up (mono_cons mono_up mono_up)))) (mono_call (mf_thue_prefix) (mono_pick (mono_app mono_up mono_up)))) mono_up))))) bn_nil)
    (bn_cons mono_up (mono_ret (mono_lst (mono_cons mono_up (mono_cons (mono_ifE mono_up (mono_or (mono_is (mono_call (mf_thue_letter) (mono_pick (mono_app mono_up (mono_cons mono_up mono_up))))) (mono_is (mono_call (mf_thue_counts) (mono_pick (mono_app mono_up (mono_cons mono_up mono_up)))))) (mono_or (mono_is (mono_call (mf_thue_letter) (mono_pick (mono_app mono_up mono_up)))) (mono_is (mono_call (mf_thue_counts) (mono_pick (mono_app mono_up mono_up)))))) mono_up)))) (sn_up (sv_nox (sv_n 4 sc__law_asked.nd (ev_fz (ev_ifE (tv_cmp (op_eqX (hr.units)) opd_eq (nomark _) (ev_n 0) (ev_str (l := [108, 101, 116, 116, 101, 114]) (by decide +kernel))) (ev_gref (ok_thue_letter (P := P) (w := w) (base := base) T).ref) (ev_gref (ok_thue_counts (P := P) (w := w) (base := base) T).ref))))))
    (bn_one (sn_ret (mono_lst (mono_cons mono_up (mono_cons (mono_ifE mono_up (mono_or (mono_is (mono_call (mf_thue_letter) (mono_pick (mono_app mono_up (mono_cons mono_up mono_up))))) (mono_is (mono_call (mf_thue_counts) (mono_pick (mono_app mono_up (mono_cons mono_up mono_up)))))) (mono_or (mono_is (mono_call (mf_thue_letter) (mono_pick (mono_app mono_up mono_up)))) (mono_is (mono_call (mf_thue_counts) (mono_pick (mono_app mono_up mono_up)))))) mono_up))) (en_lst (mono_cons mono_up (mono_cons (mono_ifE mono_up (mono_or (mono_is (mono_call (mf_thue_letter) (mono_pick (mono_app mono_up (mono_cons mono_up mono_up))))) (mono_is (mono_call (mf_thue_counts) (mono_pick (mono_app mono_up (mono_cons mono_up mono_up)))))) (mono_or (mono_is (mono_call (mf_thue_letter) (mono_pick (mono_app mono_up mono_up)))) (mono_is (mono_call (mf_thue_counts) (mono_pick (mono_app mono_up mono_up)))))) mono_up)) (an_cons mono_up (mono_cons (mono_ifE mono_up (mono_or (mono_is (mono_call (mf_thue_letter) (mono_pick (mono_app mono_up (mono_cons mono_up mono_up))))) (mono_is (mono_call (mf_thue_counts) (mono_pick (mono_app mono_up (mono_cons mono_up mono_up)))))) (mono_or (mono_is (mono_call (mf_thue_letter) (mono_pick (mono_app mono_up mono_up)))) (mono_is (mono_call (mf_thue_counts) (mono_pick (mono_app mono_up mono_up)))))) mono_up) (en_up (ev_fz (ev_str (l := [116, 111, 108, 100]) (by decide +kernel)))) (an_cons (mono_ifE mono_up (mono_or (mono_is (mono_call (mf_thue_letter) (mono_pick (mono_app mono_up (mono_cons mono_up mono_up))))) (mono_is (mono_call (mf_thue_counts) (mono_pick (mono_app mono_up (mono_cons mono_up mono_up)))))) (mono_or (mono_is (mono_call (mf_thue_letter) (mono_pick (mono_app mono_up mono_up)))) (mono_is (mono_call (mf_thue_counts) (mono_pick (mono_app mono_up mono_up)))))) mono_up (en_ifE mono_up (mono_or (mono_is (mono_call (mf_thue_letter) (mono_pick (mono_app mono_up (mono_cons mono_up mono_up))))) (mono_is (mono_call (mf_thue_counts) (mono_pick (mono_app mono_up (mono_cons mono_up mono_up)))))) (mono_or (mono_is (mono_call (mf_thue_letter) (mono_pick (mono_app mono_up mono_up)))) (mono_is (mono_call (mf_thue_counts) (mono_pick (mono_app mono_up mono_up))))) (tn_up (tv_val (ev_n 3))) (en_or (en_callGV0 4 (ok_thue_letter T) bg_thue_letter_0_index (lits_ok rfl) (mf_thue_letter) (mono_cons mono_up mono_up) tk1 (hr.mono (by decide)) (pv 4) (kn_cons mono_up mono_up (en_up (ev_fz (ev_n 1))) kn_nil)) (en_callGV0 4 (ok_thue_counts T) bg_thue_counts_0_index (lits_ok rfl) (mf_thue_counts) (mono_cons mono_up mono_up) tk1 (hr.mono (by decide)) (pv 4) (kn_cons mono_up mono_up (en_up (ev_fz (ev_n 1))) kn_nil))) (en_or (en_callGV 4 (ok_thue_letter T) bg_thue_letter_1_ (lits_ok rfl) (mf_thue_letter) mono_up mono_up tk1 (hr.mono (by decide)) (pv 4) (an_up (av_cons (ev_fz (ev_n 1)) av_nil)) kn_nil) (en_callGV 4 (ok_thue_counts T) bg_thue_counts_1_ (lits_ok rfl) (mf_thue_counts) mono_up mono_up tk1 (hr.mono (by decide)) (pv 4) (an_up (av_cons (ev_fz (ev_n 1)) av_nil)) kn_nil))) (an_up av_nil))))) (mono_ret (mono_lst (mono_cons mono_up (mono_cons (mono_ifE mono_up (mono_or (mono_is (mono_call (mf_thue_letter) (mono_pick (mono_app mono_up (mono_cons mono_up mono_up))))) (mono_is (mono_call (mf_thue_counts) (mono_pick (mono_app mono_up (mono_cons mono_up mono_up)))))) (mono_or (mono_is (mono_call (mf_thue_letter) (mono_pick (mono_app mono_up mono_up)))) (mono_is (mono_call (mf_thue_counts) (mono_pick (mono_app mono_up mono_up)))))) mono_up)))))))))
    (.named (List.Mem.tail _ (List.Mem.head _)) rfl (by decide) rfl rfl (fun a dd C pn oe x1 x2 hz hf => (bv_one (sv_ret (ev_lstE (av_cons (ev_fz (ev_str (l := [105, 110, 100, 101, 120]) (by decide +kernel))) (av_cons (ev_fz (ev_given x1 (x2 _ (List.Mem.tail _ (List.Mem.head _))) hz hf (ev_n 5))) av_nil)))))) (.named (List.Mem.tail _ (List.Mem.tail _ (List.Mem.head _))) rfl (by decide) rfl rfl (fun a dd C pn oe x1 x2 hz hf => (bv_one (sv_ret (ev_lstE (av_cons (ev_fz (ev_str (l := [108, 101, 110, 103, 116, 104]) (by decide +kernel))) (av_cons (ev_fz (ev_given x1 (x2 _ (List.Mem.tail _ (List.Mem.head _))) hz hf (ev_n 5))) av_nil)))))) .nil))) (mono_try (mono_seq (mono_if mono_up (mono_ret (mono_lst (mono_cons mono_up (mono_cons (mono_ifE mono_up (mono_call (mf_thue_part) (mono_pick (mono_app mono_up (mono_cons mono_up (mono_cons mono_up mono_up))))) (mono_call (mf_thue_part) (mono_pick (mono_app mono_up mono_up)))) mono_up)))) mono_up) (mono_seq (mono_if mono_up (mono_ret (mono_lst (mono_cons mono_up (mono_cons (mono_ifE mono_up (mono_call (mf_thue_prefix) (mono_pick (mono_app mono_up (mono_cons mono_up mono_up)))) (mono_call (mf_thue_prefix) (mono_pick (mono_app mono_up mono_up)))) mono_up)))) mono_up) (mono_seq mono_up (mono_ret (mono_lst (mono_cons mono_up (mono_cons (mono_ifE mono_up (mono_or (mono_is (mono_call (mf_thue_letter) (mono_pick (mono_app mono_up (mono_cons mono_up mono_up))))) (mono_is (mono_call (mf_thue_counts) (mono_pick (mono_app mono_up (mono_cons mono_up mono_up)))))) (mono_or (mono_is (mono_call (mf_thue_letter) (mono_pick (mono_app mono_up mono_up)))) (mono_is (mono_call (mf_thue_counts) (mono_pick (mono_app mono_up mono_up)))))) mono_up)))))))))
theorem ok__law_asked (T : Tx K mg) : DefOk P w K mg base "_law_asked" 5 ["word", "first", "second", "by_name"] F__law_asked := def_of T.d__law_asked (fok__law_asked T) (fun _ _ _ _ _ _ us hl => match us, hl with | [_, _, _, _], _ => rfl)
theorem fok__law_word_right (T : Tx K mg) (f : Addr) (fd : FuncData) (F : Fun K "_law_word_right" "_law_word_right" s__law_word_right f fd) : FnOk P w K mg base CX0 7 f fd ["box", "great", "by_name"] (spV K F__law_word_right) := fn_ok (N := N__law_word_right) (body := B__law_word_right) F sc__law_word_right rfl fun cdv A outer s H E hr =>
    (bv_cons (sv_for PassesOwn.never rfl (iv_range1 rfl T.b_range ev_int) (gv_n 3 sc__law_word_right.nd) (bv_cons (sv_par2 (fs := _) (i := 4) (j := 5) rfl sc__law_word_right.nd rfl rfl (by decide) rfl rfl (ao_cons (ev_call (ok__law_take T) (hr.mono (by decide)) (av_cons (ev_n 0) (av_cons (ev_fz ev_int) av_nil))) (ao_cons (ev_fz (ev_ifE (tv_w (wv_and (tv_val (ev_n 1)) (wv_one_and (tv_cmp (op_eqX (hr.units)) opd_eq (nomark _) (ev_n 3) ev_int)))) ev_int (ev_call (ok__law_take T) (hr.mono (by decide)) (av_cons (ev_n 0) (av_cons (ev_fz ev_int) av_nil))))) ao_nil)) rfl)
    (bv_cons (sv_n 6 sc__law_word_right.nd (ev_item (fun _ _ => rfl) (ev_lstE (av_cons (ev_fz (ev_call (ok__law_take T) (hr.mono (by decide)) (av_cons (ev_n 0) (av_cons (ev_fz ev_int) av_nil)))) (av_cons (ev_fz (ev_sub (ev_add (ev_shl ev_int (ev_call (ok__law_take T) (hr.mono (by decide)) (av_cons (ev_n 0) (av_cons (ev_fz ev_int) av_nil)))) (ev_call (ok__law_take T) (hr.mono (by decide)) (av_cons (ev_n 0) (av_cons (ev_fz ev_int) av_nil)))) ev_int)) (av_cons (ev_fz (ev_sub (ev_pow ev_int ev_int) (ev_call (ok__law_take T) (hr.mono (by decide)) (av_cons (ev_n 0) (av_cons (ev_fz ev_int) av_nil))))) (av_cons (ev_fz (ev_mod (ev_ty call_int1 fnd_int rfl T.b_int PyProof.Rows.boot_int (av_cons (ev_mul (ev_mul ev_int (ev_call (ok__law_take T) (hr.mono (by decide)) (av_cons (ev_n 0) (av_cons (ev_fz (ev_pow ev_int ev_int)) av_nil)))) (ev_pow ev_int ev_int)) av_nil)) (ev_pow ev_int ev_int))) (av_cons (ev_fz ev_int) av_nil)))))) (ev_n 4)))
    (bv_cons (sv_n 6 sc__law_word_right.nd (ev_fn (CallR_or (call_max2 rfl) (cr_max rfl)) fnd_max rfl T.b_max PyProof.Rows.boot_max (av_cons ev_int (av_cons (ev_n 6) av_nil))))
    (bv_cons (sv_if (tv_not (tv_val (ev_call (ok__law_same T 5) (hr.mono (by decide)) (av_cons (ev_fz (ev_call (ok__law_asked T) (hr.mono (by decide)) (av_cons (ev_fz (ev_str (l := [112, 97, 114, 116]) (by decide +kernel))) (av_cons (ev_fz (ev_n 6)) (av_cons (ev_fz (ev_n 5)) (av_cons (ev_fz (ev_n 2)) av_nil)))))) (av_cons (ev_fz (ev_lstE (av_cons (ev_fz (ev_str (l := [116, 111, 108, 100]) (by decide +kernel))) (av_cons (ev_fz (ev_call (ok__law_part T) (hr.mono (by decide)) (av_cons (ev_fz (ev_n 6)) (av_cons (ev_fz (ev_n 5)) av_nil)))) av_nil)))) av_nil))))) (bv_one (sv_ret ev_bl)) bv_nil)
    (bv_cons (sv_n 7 sc__law_word_right.nd (ev_lstE (av_cons (ev_fz (ev_call (ok__law_asked T) (hr.mono (by decide)) (av_cons (ev_fz (ev_str (l := [112, 114, 101, 102, 105, 120]) (by decide +kernel))) (av_cons (ev_fz ev_non) (av_cons (ev_fz (ev_n 5)) (av_cons (ev_fz (ev_n 2)) av_nil)))))) (av_cons (ev_fz (ev_call (ok__law_asked T) (hr.mono (by decide)) (av_cons (ev_fz (ev_str (l := [108, 101, 116, 116, 101, 114]) (by decide +kernel))) (av_cons (ev_fz (ev_n 6)) (av_cons (ev_fz ev_non) (av_cons (ev_fz (ev_n 2)) av_nil)))))) (av_cons (ev_fz (ev_call (ok__law_asked T) (hr.mono (by decide)) (av_cons (ev_fz (ev_str (l := [99, 111, 117, 110, 116, 115]) (by decide +kernel))) (av_cons (ev_fz (ev_n 6)) (av_cons (ev_fz ev_non) (av_cons (ev_fz (ev_not (ev_n 2))) av_nil)))))) av_nil)))))
    (bv_cons (sv_if (tv_not (tv_val (ev_call (ok__law_same T 5) (hr.mono (by decide)) (av_cons (ev_fz (ev_n 7)) (av_cons (ev_fz (ev_lstE (av_cons (ev_fz (ev_lstE (av_cons (ev_fz (ev_str (l := [116, 111, 108, 100]) (by decide +kernel))) (av_cons (ev_fz (ev_call (ok__law_part T) (hr.mono (by decide)) (av_cons (ev_fz ev_int) (av_cons (ev_fz (ev_n 5)) av_nil)))) av_nil)))) (av_cons (ev_fz (ev_lstE (av_cons (ev_fz (ev_str (l := [116, 111, 108, 100]) (by decide +kernel))) (av_cons (ev_fz (ev_call (ok__law_part T) (hr.mono (by decide)) (av_cons (ev_fz (ev_n 6)) (av_cons (ev_fz ev_int) av_nil)))) av_nil)))) (av_cons (ev_fz (ev_lstE (av_cons (ev_fz (ev_str (l := [116, 111, 108, 100]) (by decide +kernel))) (av_cons (ev_fz (ev_call (ok__law_counts T) (hr.mono (by decide)) (av_cons (ev_fz (ev_n 6)) av_nil))) av_nil)))) av_nil))))) av_nil))))) (bv_one (sv_ret ev_bl)) bv_nil)
    (bv_one (sv_n 2 sc__law_word_right.nd (ev_not (ev_n 2)))))))))))
    (bv_cons (sv_par2 (fs := _) (i := 8) (j := 9) rfl sc__law_word_right.nd rfl rfl (by decide) rfl rfl (ao_cons (ev_item (fun _ _ => rfl) (ev_lstE (av_cons (ev_fz ev_non) (av_cons (ev_fz (ev_neg ev_int)) (av_cons (ev_fz ev_int) (av_cons (ev_fz ev_bl) (av_cons (ev_fz (ev_str (l := [51]) (by decide +kernel))) (av_cons (ev_fz (ev_lstE (av_cons (ev_fz ev_int) av_nil))) av_nil))))))) (ev_call (ok__law_take T) (hr.mono (by decide)) (av_cons (ev_n 0) (av_cons (ev_fz ev_int) av_nil)))) (ao_cons (ev_item (fun _ _ => rfl) (ev_lstE (av_cons (ev_fz ev_non) (av_cons (ev_fz (ev_neg ev_int)) (av_cons (ev_fz (ev_add (ev_pow ev_int ev_int) ev_int)) (av_cons (ev_fz ev_bl) (av_cons (ev_fz (ev_str (l := [51]) (by decide +kernel))) (av_cons (ev_fz (ev_lstE (av_cons (ev_fz ev_int) av_nil))) av_nil))))))) (ev_call (ok__law_take T) (hr.mono (by decide)) (av_cons (ev_n 0) (av_cons (ev_fz ev_int) av_nil)))) ao_nil)) rfl)
    (bv_cons (sv_n 7 sc__law_word_right.nd (ev_lstE (av_cons (ev_fz (ev_call (ok__law_asked T) (hr.mono (by decide)) (av_cons (ev_fz (ev_str (l := [112, 114, 101, 102, 105, 120]) (by decide +kernel))) (av_cons (ev_fz ev_non) (av_cons (ev_fz (ev_n 8)) (av_cons (ev_fz (ev_n 2)) av_nil)))))) (av_cons (ev_fz (ev_call (ok__law_asked T) (hr.mono (by decide)) (av_cons (ev_fz (ev_str (l := [112, 97, 114, 116]) (by decide +kernel))) (av_cons (ev_fz (ev_n 9)) (av_cons (ev_fz (ev_n 8)) (av_cons (ev_fz (ev_n 2)) av_nil)))))) (av_cons (ev_fz (ev_call (ok__law_asked T) (hr.mono (by decide)) (av_cons (ev_fz (ev_str (l := [112, 97, 114, 116]) (by decide +kernel))) (av_cons (ev_fz ev_int) (av_cons (ev_fz (ev_n 8)) (av_cons (ev_fz (ev_not (ev_n 2))) av_nil)))))) (av_cons (ev_fz (ev_call (ok__law_asked T) (hr.mono (by decide)) (av_cons (ev_fz (ev_str (l := [108, 101, 116, 116, 101, 114]) (by decide +kernel))) (av_cons (ev_fz (ev_n 9)) (av_cons (ev_fz ev_non) (av_cons (ev_fz (ev_n 2)) av_nil)))))) (av_cons (ev_fz (ev_call (ok__law_asked T) (hr.mono (by decide)) (av_cons (ev_fz (ev_str (l := [99, 111, 117, 110, 116, 115]) (by decide +kernel))) (av_cons (ev_fz (ev_n 9)) (av_cons (ev_fz ev_non) (av_cons (ev_fz (ev_n 2)) av_nil)))))) av_nil)))))))
    (bv_one (sv_ret (ev_call (ok__law_same T 5) (hr.mono (by decide)) (av_cons (ev_fz (ev_n 7)) (av_cons (ev_fz (ev_lstE (av_cons (ev_fz (ev_lstE (av_cons (ev_fz (ev_str (l := [108, 101, 110, 103, 116, 104]) (by decide +kernel))) (av_cons (ev_fz (ev_n 8)) av_nil)))) (av_cons (ev_fz (ev_lstE (av_cons (ev_fz (ev_str (l := [105, 110, 100, 101, 120]) (by decide +kernel))) (av_cons (ev_fz (ev_n 9)) av_nil)))) (av_cons (ev_fz (ev_lstE (av_cons (ev_fz (ev_str (l := [108, 101, 110, 103, 116, 104]) (by decide +kernel))) (av_cons (ev_fz (ev_n 8)) av_nil)))) (av_cons (ev_fz (ev_lstE (av_cons (ev_fz (ev_str (l := [105, 110, 100, 101, 120]) (by decide +kernel))) (av_cons (ev_fz (ev_n 9)) av_nil)))) (av_cons (ev_fz (ev_lstE (av_cons (ev_fz (ev_str (l := [105, 110, 100, 101, 120]) (by decide +kernel))) (av_cons (ev_fz (ev_n 9)) av_nil)))) av_nil))))))) av_nil))))))))
theorem ok__law_word_right (T : Tx K mg) : DefOk P w K mg base "_law_word_right" 7 ["box", "great", "by_name"] F__law_word_right := def_of T.d__law_word_right (fok__law_word_right T) (fun _ _ _ _ _ _ us hl => match us, hl with | [_, _, _], _ => rfl)
theorem fok__law_overlap (T : Tx K mg) (f : Addr) (fd : FuncData) (F : Fun K "_law_overlap" "_law_overlap" s__law_overlap f fd) : FnOk P w K mg base CX0 1 f fd ["word"] (spV K F__law_overlap) := fn_ok (N := N__law_overlap) (body := B__law_overlap) F sc__law_overlap rfl fun cdv A outer s H E hr =>
    (bv_cons (sv_for PassesOwn.never rfl (iv_range2 rfl T.b_range ev_int (ev_add (ev_fn call_len fnd_len rfl T.b_len PySem.boot_len (av_cons (ev_n 0) av_nil)) ev_int)) (gv_n 1 sc__law_overlap.nd) (bv_cons (sv_n 2 sc__law_overlap.nd (ev_lstE av_nil))
    (bv_cons (sv_for PassesOwn.never rfl (iv_range2 rfl T.b_range ev_int (ev_add (ev_fdiv (ev_sub (ev_n 1) ev_int) ev_int) ev_int)) (gv_n 3 sc__law_overlap.nd) (bv_cons (sv_n 4 sc__law_overlap.nd (ev_sub (ev_sub (ev_n 1) (ev_mul ev_int (ev_n 3))) ev_int))
    (bv_one (sv_if (tv_cmp (op_eqX (hr.units)) opd_eq (nomark _) (ev_slice (ev_n 0) (ov_some (ev_n 4)) (ov_some (ev_sub (ev_n 1) (ev_n 3)))) (ev_slice (ev_n 0) (ov_some (ev_add (ev_n 4) (ev_n 3))) (ov_some (ev_n 1)))) (bv_one (sv_expr (ev_append (pv 2) (av_cons (ev_fz (ev_n 4)) av_nil)))) bv_nil))))
    (bv_one (sv_if (tv_cmp (op_neX (hr.units)) opd_ne (nomark _) (ev_n 2) (ev_lstE av_nil)) (bv_one (sv_ret (ev_tupE (av_cons (ev_fz (ev_n 1)) (av_cons (ev_fz (ev_fn (CallR_or (call_min2 rfl) (cr_min rfl)) fnd_min rfl T.b_min PyProof.Rows.boot_min (av_cons (ev_n 2) av_nil))) av_nil))))) bv_nil)))))
    (bv_one (sv_ret ev_non)))
theorem ok__law_overlap (T : Tx K mg) : DefOk P w K mg base "_law_overlap" 1 ["word"] F__law_overlap := def_of T.d__law_overlap (fok__law_overlap T) (fun _ _ _ _ _ _ us hl => match us, hl with | [_], _ => rfl)
theorem fok__law_mu (T : Tx K mg) (f : Addr) (fd : FuncData) (F : Fun K "_law_mu" "_law_mu" s__law_mu f fd) : FnOk P w K mg base CX0 1 f fd ["word"] (spV K F__law_mu) := fn_ok (N := N__law_mu) (body := B__law_mu) F sc__law_mu rfl fun cdv A outer s H E hr =>
    (bv_one (sv_ret (ev_join (ev_str (l := []) (by decide +kernel)) (av_cons (ev_comp (own := [("letter", 1)]) rfl sc__law_mu.nd (blkOk_by (N := N__law_mu) (sc := defScope s__law_mu) (by decide +kernel)) (iv_txt (ev_n 0)) (fun _ _ _ _ _ => (gv_n 1 sc__law_mu.nd)) (fun _ _ _ _ _ => tsv_nil) (fun _ _ _ _ _ => (ev_item (fun _ _ => rfl) (ev_lstE (av_cons (ev_fz (ev_str (l := [97, 98]) (by decide +kernel))) (av_cons (ev_fz (ev_str (l := [98, 97]) (by decide +kernel))) av_nil))) (ev_sindex (ev_str (l := [97, 98]) (by decide +kernel)) (av_cons (ev_n 1) av_nil))))) av_nil))))
theorem ok__law_mu (T : Tx K mg) : DefOk P w K mg base "_law_mu" 1 ["word"] F__law_mu := def_of T.d__law_mu (fok__law_mu T) (fun _ _ _ _ _ _ us hl => match us, hl with | [_], _ => rfl)
theorem fok__law_drawn_free (T : Tx K mg) (f : Addr) (fd : FuncData) (F : Fun K "_law_drawn_free" "_law_drawn_free" s__law_drawn_free f fd) : FnOk P w K mg base CX0 3 f fd ["box"] (spV K F__law_drawn_free) := fn_ok (N := N__law_drawn_free) (body := B__law_drawn_free) F sc__law_drawn_free rfl fun cdv A outer s H E hr =>
    (bv_cons (sv_n 1 sc__law_drawn_free.nd (ev_call (ok__law_take T) (hr.mono (by decide)) (av_cons (ev_n 0) (av_cons (ev_fz ev_int) av_nil))))
    (bv_cons (sv_if (tv_cmp op_lt opd_ib (nomark _) (ev_n 1) ev_int) (bv_one (sv_ret (ev_call (ok__law_part T) (hr.mono (by decide)) (av_cons (ev_fz (ev_call (ok__law_take T) (hr.mono (by decide)) (av_cons (ev_n 0) (av_cons (ev_fz ev_int) av_nil)))) (av_cons (ev_fz (ev_add ev_int (ev_call (ok__law_take T) (hr.mono (by decide)) (av_cons (ev_n 0) (av_cons (ev_fz (ev_item (fun _ _ => rfl) (ev_lstE (av_cons (ev_fz ev_int) (av_cons (ev_fz ev_int) av_nil))) (ev_call (ok__law_take T) (hr.mono (by decide)) (av_cons (ev_n 0) (av_cons (ev_fz ev_int) av_nil))))) av_nil))))) av_nil))))) bv_nil)
    (bv_cons (sv_n 2 sc__law_drawn_free.nd (ev_item (fun _ _ => rfl) (ev_lstE (av_cons (ev_fz (ev_str (l := [97, 97, 98]) (by decide +kernel))) (av_cons (ev_fz (ev_str (l := [97, 98, 97, 97, 98]) (by decide +kernel))) (av_cons (ev_fz (ev_str (l := [97, 97, 98, 97, 97, 98]) (by decide +kernel))) (av_cons (ev_fz (ev_str (l := [97, 98, 98, 97]) (by decide +kernel))) (av_cons (ev_fz (ev_str (l := [98, 98]) (by decide +kernel))) (av_cons (ev_fz (ev_str (l := [97, 97, 98, 98]) (by decide +kernel))) (av_cons (ev_fz (ev_str (l := [97, 98, 98, 97, 97, 98]) (by decide +kernel))) (av_cons (ev_fz (ev_str (l := [98, 97, 97, 98, 98, 97]) (by decide +kernel))) (av_cons (ev_fz (ev_str (l := [97, 97, 98, 98, 97, 97]) (by decide +kernel))) (av_cons (ev_fz (ev_str (l := [98, 97, 98, 98, 97]) (by decide +kernel))) av_nil))))))))))) (ev_call (ok__law_take T) (hr.mono (by decide)) (av_cons (ev_n 0) (av_cons (ev_fz ev_int) av_nil)))))
    (bv_cons (sv_for PassesOwn.never rfl (iv_range1 rfl T.b_range (ev_add ev_int (ev_call (ok__law_take T) (hr.mono (by decide)) (av_cons (ev_n 0) (av_cons (ev_fz ev_int) av_nil))))) (gv_n 3 sc__law_drawn_free.nd) (bv_cons (sv_n 2 sc__law_drawn_free.nd (ev_add (ev_add (ev_item (fun _ _ => rfl) (ev_lstE (av_cons (ev_fz (ev_str (l := []) (by decide +kernel))) (av_cons (ev_fz (ev_str (l := [97]) (by decide +kernel))) (av_cons (ev_fz (ev_str (l := [98]) (by decide +kernel))) (av_cons (ev_fz (ev_str (l := [97, 97]) (by decide +kernel))) (av_cons (ev_fz (ev_str (l := [98, 98]) (by decide +kernel))) av_nil)))))) (ev_call (ok__law_take T) (hr.mono (by decide)) (av_cons (ev_n 0) (av_cons (ev_fz ev_int) av_nil)))) (ev_call (ok__law_mu T) (hr.mono (by decide)) (av_cons (ev_fz (ev_n 2)) av_nil))) (ev_item (fun _ _ => rfl) (ev_lstE (av_cons (ev_fz (ev_str (l := []) (by decide +kernel))) (av_cons (ev_fz (ev_str (l := [97]) (by decide +kernel))) (av_cons (ev_fz (ev_str (l := [98]) (by decide +kernel))) (av_cons (ev_fz (ev_str (l := [97, 97]) (by decide +kernel))) (av_cons (ev_fz (ev_str (l := [98, 98]) (by decide +kernel))) av_nil)))))) (ev_call (ok__law_take T) (hr.mono (by decide)) (av_cons (ev_n 0) (av_cons (ev_fz ev_int) av_nil))))))
    (bv_one (sv_if (tv_cmp op_isnX opd_isn (nomark _) (ev_call (ok__law_overlap T) (hr.mono (by decide)) (av_cons (ev_fz (ev_n 2)) av_nil)) ev_non) (bv_one (sv_n 2 sc__law_drawn_free.nd (ev_call (ok__law_mu T) (hr.mono (by decide)) (av_cons (ev_fz (ev_str (l := [97, 98, 97, 97, 98]) (by decide +kernel))) av_nil)))) bv_nil))))
    (bv_one (sv_ret (ev_ifE (tv_cmp (op_eqX (hr.units)) opd_eq (nomark _) (ev_n 1) ev_int) (ev_call (ok__law_near T) (hr.mono (by decide)) (av_cons (ev_n 0) (av_cons (ev_fz (ev_n 2)) (av_cons (ev_fz ev_int) av_nil)))) (ev_n 2))))))))
theorem ok__law_drawn_free (T : Tx K mg) : DefOk P w K mg base "_law_drawn_free" 3 ["box"] F__law_drawn_free := def_of T.d__law_drawn_free (fok__law_drawn_free T) (fun _ _ _ _ _ _ us hl => match us, hl with | [_], _ => rfl)
theorem fok__law_ways (T : Tx K mg) (f : Addr) (fd : FuncData) (F : Fun K "_law_ways" "_law_ways" s__law_ways f fd) : FnOk P w K mg base CX0 1 f fd ["word"] (spV K F__law_ways) := fn_ok (N := N__law_ways) (body := B__law_ways) F sc__law_ways rfl fun cdv A outer s H E hr =>
    (bv_cons (sv_n 1 sc__law_ways.nd (ev_lstE av_nil))
    (bv_cons (sv_for PassesOwn.never rfl (iv_list (ev_lstE (av_cons (ev_fz (ev_str (l := []) (by decide +kernel))) (av_cons (ev_fz (ev_str (l := [97]) (by decide +kernel))) (av_cons (ev_fz (ev_str (l := [98]) (by decide +kernel))) (av_cons (ev_fz (ev_str (l := [97, 97]) (by decide +kernel))) (av_cons (ev_fz (ev_str (l := [98, 98]) (by decide +kernel))) av_nil))))))) (gv_n 2 sc__law_ways.nd) (bv_one (sv_for PassesOwn.never rfl (iv_list (ev_lstE (av_cons (ev_fz (ev_str (l := []) (by decide +kernel))) (av_cons (ev_fz (ev_str (l := [97]) (by decide +kernel))) (av_cons (ev_fz (ev_str (l := [98]) (by decide +kernel))) (av_cons (ev_fz (ev_str (l := [97, 97]) (by decide +kernel))) (av_cons (ev_fz (ev_str (l := [98, 98]) (by decide +kernel))) av_nil))))))) (gv_n 3 sc__law_ways.nd) (bv_cons (sv_n 4 sc__law_ways.nd (ev_slice (ev_n 0) (ov_some (ev_fn call_len fnd_len rfl T.b_len PySem.boot_len (av_cons (ev_n 2) av_nil))) (ov_some (ev_sub (ev_fn call_len fnd_len rfl T.b_len PySem.boot_len (av_cons (ev_n 0) av_nil)) (ev_fn call_len fnd_len rfl T.b_len PySem.boot_len (av_cons (ev_n 3) av_nil))))))
    (bv_one (sv_if (tv_w (wv_and (tv_cmp op_le opd_ib (nomark _) (ev_add (ev_fn call_len fnd_len rfl T.b_len PySem.boot_len (av_cons (ev_n 2) av_nil)) (ev_fn call_len fnd_len rfl T.b_len PySem.boot_len (av_cons (ev_n 3) av_nil))) (ev_fn call_len fnd_len rfl T.b_len PySem.boot_len (av_cons (ev_n 0) av_nil))) (wv_and (tv_cmp (op_eqX (hr.units)) opd_eq (nomark _) (ev_add (ev_add (ev_n 2) (ev_n 4)) (ev_n 3)) (ev_n 0)) (wv_one_and (tv_cmp (op_eqX (hr.units)) opd_eq (nomark _) (ev_band (ev_fn call_len fnd_len rfl T.b_len PySem.boot_len (av_cons (ev_n 4) av_nil)) ev_int) ev_int))))) (bv_cons (sv_setComp (own := [("k", 6)]) (i := 5) rfl sc__law_ways.nd rfl rfl (sw_true rfl rfl rfl (by decide +kernel)) (blkOk_by (N := N__law_ways) (sc := defScope s__law_ways) (by decide +kernel)) (iv_rangeU rfl T.b_range ev_int (ev_fn call_len fnd_len rfl T.b_len PySem.boot_len (av_cons (ev_n 4) av_nil)) ev_int) (fun _ _ _ _ _ => (gv_n 6 sc__law_ways.nd)) (fun _ _ _ _ _ => tsv_nil) (fun _ _ _ _ _ => (ev_slice (ev_n 4) (ov_some (ev_n 6)) (ov_some (ev_add (ev_n 6) ev_int)))))
    (bv_one (sv_if (tv_cmp (op_eqX (hr.units)) opd_eq (nomark _) (ev_comp (own := [("pair", 7)]) rfl sc__law_ways.nd (blkOk_by (N := N__law_ways) (sc := defScope s__law_ways) (by decide +kernel)) (iv_list (ev_n 5)) (fun _ _ _ _ _ => (gv_n 7 sc__law_ways.nd)) (fun _ _ _ _ _ => tsv_one (tv_cmp op_ninX opd_nin (by rfl) (ev_n 7) (ev_tupE (av_cons (ev_fz (ev_str (l := [97, 98]) (by decide +kernel))) (av_cons (ev_fz (ev_str (l := [98, 97]) (by decide +kernel))) av_nil))))) (fun _ _ _ _ _ => (ev_n 7))) (ev_lstE av_nil)) (bv_one (sv_expr (ev_append (pv 1) (av_cons (ev_fz (ev_tupE (av_cons (ev_fz (ev_n 2)) (av_cons (ev_fz (ev_join (ev_str (l := []) (by decide +kernel)) (av_cons (ev_comp (own := [("pair", 7)]) rfl sc__law_ways.nd (blkOk_by (N := N__law_ways) (sc := defScope s__law_ways) (by decide +kernel)) (iv_list (ev_n 5)) (fun _ _ _ _ _ => (gv_n 7 sc__law_ways.nd)) (fun _ _ _ _ _ => tsv_nil) (fun _ _ _ _ _ => (ev_item (fun _ _ => rfl) (ev_n 7) ev_int))) av_nil))) (av_cons (ev_fz (ev_n 3)) av_nil))))) av_nil)))) bv_nil))) bv_nil))))))
    (bv_one (sv_ret (ev_n 1)))))
theorem ok__law_ways (T : Tx K mg) : DefOk P w K mg base "_law_ways" 1 ["word"] F__law_ways := def_of T.d__law_ways (fok__law_ways T) (fun _ _ _ _ _ _ us hl => match us, hl with | [_], _ => rfl)
theorem bg_peeled_0_word : BindG "peeled" s_peeled ["word"] 0 ["word"] [.inl 0] 0 := .inl ⟨rfl, fun _ _ _ _ _ _ us ws h1 h2 => match us, h1, ws, h2 with | [], _, [_], _ => rfl⟩
theorem bg_peeled_1_ : BindG "peeled" s_peeled ["word"] 1 [] [.inl 0] 0 := .inl ⟨rfl, fun _ _ _ _ _ _ us ws h1 h2 => match us, h1, ws, h2 with | [_], _, [], _ => rfl⟩
theorem mo__law_peeled : Mono (B__law_peeled) := (mono_try (mono_ret (mono_lst (mono_cons mono_up (mono_cons (mono_ifE mono_up (mono_call (mf_peeled) (mono_pick (mono_app mono_up (mono_cons mono_up mono_up)))) (mono_call (mf_peeled) (mono_pick (mono_app mono_up mono_up)))) mono_up)))))
theorem fok__law_peeled (T : Tx K mg) (f : Addr) (fd : FuncData) (F : Fun K "_law_peeled" "_law_peeled" s__law_peeled f fd) : FnOk P w K mg base CX0 5 f fd ["word", "by_name"] (spV K F__law_peeled) := fn_okNV (N := N__law_peeled) (body := B__law_peeled) F sc__law_peeled (mo__law_peeled) T.h__law_peeled fun cdv A outer s H E hr =>
    (bn_one (sn_try T.ect sc__law_peeled.nd rfl rfl takesN (mono_ret (mono_lst (mono_cons mono_up (mono_cons (mono_ifE mono_up (mono_call (mf_peeled) (mono_pick (mono_app mono_up (mono_cons mono_up mono_up)))) (mono_call (mf_peeled) (mono_pick (mono_app mono_up mono_up)))) mono_up)))) (fun W1 pn1 xe1 tk1 => (bn_one (sn_ret (mono_lst (mono_cons mono_up (mono_cons (mono_ifE mono_up (mono_call (mf_peeled) (mono_pick (mono_app mono_up (mono_cons mono_up mono_up)))) (mono_call (mf_peeled) (mono_pick (mono_app mono_up mono_up)))) mono_up))) (en_lst (mono_cons mono_up (mono_cons (mono_ifE mono_up (mono_call (mf_peeled) (mono_pick (mono_app mono_up (mono_cons mono_up mono_up)))) (mono_call (mf_peeled) (mono_pick (mono_app mono_up mono_up)))) mono_up)) (an_cons mono_up (mono_cons (mono_ifE mono_up (mono_call (mf_peeled) (mono_pick (mono_app mono_up (mono_cons mono_up mono_up)))) (mono_call (mf_peeled) (mono_pick (mono_app mono_up mono_up)))) mono_up) (en_up (ev_fz (ev_str (l := [116, 111, 108, 100]) (by decide +kernel)))) (an_cons (mono_ifE mono_up (mono_call (mf_peeled) (mono_pick (mono_app mono_up (mono_cons mono_up mono_up)))) (mono_call (mf_peeled) (mono_pick (mono_app mono_up mono_up)))) mono_up (en_ifE mono_up (mono_call (mf_peeled) (mono_pick (mono_app mono_up (mono_cons mono_up mono_up)))) (mono_call (mf_peeled) (mono_pick (mono_app mono_up mono_up))) (tn_up (tv_val (ev_n 1))) (en_callG0 (ok_peeled T) bg_peeled_0_word (lits_ok rfl) (mf_peeled) (mono_cons mono_up mono_up) tk1 (hr.mono (by decide)) (kn_cons mono_up mono_up (en_up (ev_fz (ev_n 0))) kn_nil)) (en_callG (ok_peeled T) bg_peeled_1_ (lits_ok rfl) (mf_peeled) mono_up mono_up tk1 (hr.mono (by decide)) (an_up (av_cons (ev_fz (ev_n 0)) av_nil)) kn_nil)) (an_up av_nil))))) (mono_ret (mono_lst (mono_cons mono_up (mono_cons (mono_ifE mono_up (mono_call (mf_peeled) (mono_pick (mono_app mono_up (mono_cons mono_up mono_up)))) (mono_call (mf_peeled) (mono_pick (mono_app mono_up mono_up)))) mono_up))))))
    (.named (List.Mem.tail _ (List.Mem.tail _ (List.Mem.tail _ (List.Mem.head _)))) rfl (by decide) rfl rfl (fun a dd C pn oe x1 x2 hz hf => (bv_one (sv_ret (ev_lstE (av_cons (ev_fz (ev_str (l := [119, 111, 114, 100]) (by decide +kernel))) (av_cons (ev_fz (ev_given x1 (x2 _ (List.Mem.tail _ (List.Mem.head _))) hz hf (ev_n 2))) av_nil)))))) (.named (List.Mem.tail _ (List.Mem.tail _ (List.Mem.tail _ (List.Mem.tail _ (List.Mem.tail _ (List.Mem.head _)))))) rfl (by decide) rfl rfl (fun a dd C pn oe x1 x2 hz hf => (bv_one (sv_ret (ev_lstE (av_cons (ev_fz (ev_str (l := [115, 104, 111, 114, 116]) (by decide +kernel))) (av_cons (ev_fz (ev_given x1 (x2 _ (List.Mem.tail _ (List.Mem.tail _ (List.Mem.tail _ (List.Mem.head _))))) hz hf (ev_n 2))) av_nil)))))) (.named (List.Mem.tail _ (List.Mem.tail _ (List.Mem.tail _ (List.Mem.tail _ (List.Mem.head _))))) rfl (by decide) rfl rfl (fun a dd C pn oe x1 x2 hz hf => (bv_one (sv_ret (ev_lstE (av_cons (ev_fz (ev_str (l := [111, 118, 101, 114, 108, 97, 112]) (by decide +kernel))) (av_cons (ev_fz (ev_tupE (av_cons (ev_fz (ev_given x1 (x2 _ (List.Mem.head _)) hz hf (ev_n 2))) (av_cons (ev_fz (ev_given x1 (x2 _ (List.Mem.tail _ (List.Mem.tail _ (List.Mem.head _)))) hz hf (ev_n 2))) av_nil)))) av_nil)))))) .nil)))) (mono_try (mono_ret (mono_lst (mono_cons mono_up (mono_cons (mono_ifE mono_up (mono_call (mf_peeled) (mono_pick (mono_app mono_up (mono_cons mono_up mono_up)))) (mono_call (mf_peeled) (mono_pick (mono_app mono_up mono_up)))) mono_up))))))
theorem ok__law_peeled (T : Tx K mg) : DefOk P w K mg base "_law_peeled" 5 ["word", "by_name"] F__law_peeled := def_of T.d__law_peeled (fok__law_peeled T) (fun _ _ _ _ _ _ us hl => match us, hl with | [_, _], _ => rfl)
theorem fok__law_peeling_right (T : Tx K mg) (f : Addr) (fd : FuncData) (F : Fun K "_law_peeling_right" "_law_peeling_right" s__law_peeling_right f fd) : FnOk P w K mg base CX0 7 f fd ["box", "by_name"] (spV K F__law_peeling_right) := fn_ok (N := N__law_peeling_right) (body := B__law_peeling_right) F sc__law_peeling_right rfl fun cdv A outer s H E hr =>
    (bv_cons (sv_n 2 sc__law_peeling_right.nd (ev_call (ok__law_drawn_free T) (hr.mono (by decide)) (av_cons (ev_n 0) av_nil)))
    (bv_cons (sv_if (tv_cmp (op_eqX (hr.units)) opd_eq (nomark _) (ev_call (ok__law_take T) (hr.mono (by decide)) (av_cons (ev_n 0) (av_cons (ev_fz ev_int) av_nil))) ev_int) (bv_one (sv_n 2 sc__law_peeling_right.nd (ev_slice (ev_n 2) ov_none (ov_some (ev_call (ok__law_take T) (hr.mono (by decide)) (av_cons (ev_n 0) (av_cons (ev_fz ev_int) av_nil))))))) bv_nil)
    (bv_cons (sv_par2 (fs := _) (i := 3) (j := 4) rfl sc__law_peeling_right.nd rfl rfl (by decide) rfl rfl (ao_cons (ev_call (ok__law_peeled T) (hr.mono (by decide)) (av_cons (ev_fz (ev_n 2)) (av_cons (ev_fz (ev_n 1)) av_nil))) (ao_cons (ev_call (ok__law_overlap T) (hr.mono (by decide)) (av_cons (ev_fz (ev_n 2)) av_nil)) ao_nil)) rfl)
    (bv_cons (sv_if (tv_cmp op_lt opd_ib (nomark _) (ev_fn call_len fnd_len rfl T.b_len PySem.boot_len (av_cons (ev_n 2) av_nil)) ev_int) (bv_one (sv_ret (ev_call (ok__law_same T 5) (hr.mono (by decide)) (av_cons (ev_fz (ev_n 3)) (av_cons (ev_fz (ev_lstE (av_cons (ev_fz (ev_str (l := [115, 104, 111, 114, 116]) (by decide +kernel))) (av_cons (ev_fz (ev_n 2)) av_nil)))) av_nil))))) bv_nil)
    (bv_cons (sv_if (tv_cmp op_isnX opd_isn (nomark _) (ev_n 4) ev_non) (bv_one (sv_ret (ev_call (ok__law_same T 5) (hr.mono (by decide)) (av_cons (ev_fz (ev_n 3)) (av_cons (ev_fz (ev_lstE (av_cons (ev_fz (ev_str (l := [111, 118, 101, 114, 108, 97, 112]) (by decide +kernel))) (av_cons (ev_fz (ev_n 4)) av_nil)))) av_nil))))) bv_nil)
    (bv_cons (sv_n 5 sc__law_peeling_right.nd (ev_call (ok__law_ways T) (hr.mono (by decide)) (av_cons (ev_fz (ev_n 2)) av_nil)))
    (bv_one (sv_ret (ev_and (ev_cmp (op_eqX (hr.units)) opd_eq (nomark _) (ev_fn call_len fnd_len rfl T.b_len PySem.boot_len (av_cons (ev_n 5) av_nil)) ev_int) (ev_one (ev_call (ok__law_same T 5) (hr.mono (by decide)) (av_cons (ev_fz (ev_n 3)) (av_cons (ev_fz (ev_lstE (av_cons (ev_fz (ev_str (l := [116, 111, 108, 100]) (by decide +kernel))) (av_cons (ev_fz (ev_item (fun _ _ => rfl) (ev_n 5) ev_int)) av_nil)))) av_nil)))))))))))))
theorem ok__law_peeling_right (T : Tx K mg) : DefOk P w K mg base "_law_peeling_right" 7 ["box", "by_name"] F__law_peeling_right := def_of T.d__law_peeling_right (fok__law_peeling_right T) (fun _ _ _ _ _ _ us hl => match us, hl with | [_, _], _ => rfl)
theorem fok_law (T : Tx K mg) (f : Addr) (fd : FuncData) (F : Fun K "law" "law" s_law f fd) : FnOk P w K mg base CX0 8 f fd ["script"] (spV K F_law) := fn_ok (N := N_law) (body := B_law) F sc_law rfl fun cdv A outer s H E hr =>
    (bv_cons (sv_for PassesOwn.never rfl (iv_range1 rfl T.b_range (ev_fn (CallR_or (call_max2 rfl) (cr_max rfl)) fnd_max rfl T.b_max PyProof.Rows.boot_max (av_cons ev_int (av_cons (ev_fn (CallR_or (call_min2 rfl) (cr_min rfl)) fnd_min rfl T.b_min PyProof.Rows.boot_min (av_cons ev_int (av_cons (ev_fn call_len fnd_len rfl T.b_len PySem.boot_len (av_cons (ev_n 0) av_nil)) av_nil))) av_nil)))) (gv_n 1 sc_law.nd) (bv_cons (sv_n 2 sc_law.nd (ev_call (ok__law_box T) (hr.mono (by decide)) (av_cons (ev_fz (ev_call (ok__law_cell T) (hr.mono (by decide)) (av_cons (ev_fz (ev_n 0)) (av_cons (ev_fz (ev_n 1)) av_nil)))) av_nil)))
    (bv_cons (sv_par2 (fs := _) (i := 3) (j := 4) rfl sc_law.nd rfl rfl (by decide) rfl rfl (ao_cons (ev_cmp (op_eqX (hr.units)) opd_eq (nomark _) (ev_call (ok__law_take T) (hr.mono (by decide)) (av_cons (ev_n 2) (av_cons (ev_fz ev_int) av_nil))) ev_int) (ao_cons (ev_cmp (op_eqX (hr.units)) opd_eq (nomark _) (ev_call (ok__law_take T) (hr.mono (by decide)) (av_cons (ev_n 2) (av_cons (ev_fz ev_int) av_nil))) ev_int) ao_nil)) rfl)
    (bv_cons (sv_if (tv_not (tv_val (ev_call (ok__law_word_right T) (hr.mono (by decide)) (av_cons (ev_n 2) (av_cons (ev_fz (ev_n 4)) (av_cons (ev_fz (ev_n 3)) av_nil)))))) (bv_one (sv_ret ev_bl)) bv_nil)
    (bv_cons (sv_for PassesOwn.never rfl (iv_range1 rfl T.b_range ev_int) (gv_n 5 sc_law.nd) (bv_cons (sv_if (tv_not (tv_val (ev_call (ok__law_peeling_right T) (hr.mono (by decide)) (av_cons (ev_n 2) (av_cons (ev_fz (ev_n 3)) av_nil))))) (bv_one (sv_ret ev_bl)) bv_nil)
    (bv_one (sv_n 3 sc_law.nd (ev_not (ev_n 3))))))
    (bv_cons (sv_n 6 sc_law.nd (ev_item (fun _ _ => rfl) (ev_lstE (av_cons (ev_fz (ev_call (ok__law_odd_word T) (hr.mono (by decide)) (av_cons (ev_n 2) av_nil))) (av_cons (ev_fz (ev_str (l := [97, 98, 99, 97, 98, 97, 98]) (by decide +kernel))) (av_cons (ev_fz (ev_str (l := [97, 98, 98, 97, 98, 97, 97, 98, 99]) (by decide +kernel))) av_nil)))) (ev_call (ok__law_take T) (hr.mono (by decide)) (av_cons (ev_n 2) (av_cons (ev_fz ev_int) av_nil)))))
    (bv_one (sv_if (tv_not (tv_val (ev_call (ok__law_same T 5) (hr.mono (by decide)) (av_cons (ev_fz (ev_call (ok__law_peeled T) (hr.mono (by decide)) (av_cons (ev_fz (ev_n 6)) (av_cons (ev_fz (ev_n 3)) av_nil)))) (av_cons (ev_fz (ev_lstE (av_cons (ev_fz (ev_str (l := [119, 111, 114, 100]) (by decide +kernel))) (av_cons (ev_fz (ev_n 6)) av_nil)))) av_nil))))) (bv_one (sv_ret ev_bl)) bv_nil))))))))
    (bv_one (sv_ret ev_bl)))
end
end K54
namespace K54
open PySem PySem.Spec PyProof.Rows L2 TL M
def Box (n : Nat) (b : List D) : Prop := ∃ (z : Int) (g : Bool) (r c : Int), b = [.int z, .bl g, .int r, .int c] ∧ 0 ≤ z ∧ 0 ≤ r ∧ r < 2147483629 ∧ 0 ≤ c ∧ c ≤ n
theorem Box.mono {n m : Nat} {b : List D} (h : Box n b) (hm : n ≤ m) : Box m b := by
  obtain ⟨z, g, r, c, e, h2, h3, h4, h5, h6⟩ := h
  exact ⟨z, g, r, c, e, h2, h3, h4, h5, by omega⟩
theorem take_ok {n : Nat} {b : List D} {m : Int} {Q : RV → List SV → Prop} (hb : Box n b) (hn : n ≤ 1000000000) (h0 : 0 < m) (h1 : m < 1073741824) (h : ∀ v b', Box (n + 1) b' → 0 ≤ v → v < m → Q (.d (.int v)) [.own true b', .d (.int m)]) : wF F__law_take [.own true b, .d (.int m)] Q := by
  obtain ⟨z, g, r, c, rfl, h2, h3, h4, h5, h6⟩ := hb
  unfold F__law_take
  rw [wF_run]
  unfold B__law_take
  have a1 : (r + 15485867 * (c + 1) + 179424691).natAbs < 18446744073709551616 := by omega
  have a2 : ((r + 15485867 * (c + 1) + 179424691) ^ 5 % 2147483647 * 48271 + 104743 * (c + 1)).natAbs < 18446744073709551616 := by
    generalize (r + 15485867 * (c + 1) + 179424691) ^ 5 = t
    omega
  have h6' : c + 1 ≤ ((n + 1 : Nat) : Int) := by omega
  have hm1 : ∀ t : Int, 0 ≤ t % m := fun t => Int.emod_nonneg _ (by omega)
  have hm2 : ∀ t : Int, t % m < m := fun t => Int.emod_lt_of_pos _ h0
  simp [h0, h1, a1, a2]
  split
  · split
    · exact h _ _ ⟨_, _, _, _, rfl, Int.ediv_nonneg h2 (by omega), h3, h4, h5, by omega⟩ (hm1 _) (hm2 _)
    · exact h _ _ ⟨_, _, _, _, rfl, h2, h3, h4, by omega, h6'⟩ (hm1 _) (hm2 _)
  · exact h _ _ ⟨_, _, _, _, rfl, h2, h3, h4, by omega, h6'⟩ (hm1 _) (hm2 _)
theorem box_ok {x : Int} {Q : RV → List SV → Prop} (h : ∀ b, Box 0 b → Q (.own b) [.d (.int x)]) : wF F__law_box [.d (.int x)] Q := by
  unfold F__law_box
  rw [wF_run]
  unfold B__law_box
  simp
  exact h _ ⟨_, _, _, _, rfl, by split <;> omega, by omega, by omega, by omega, by omega⟩
theorem cell_ok {ns : List Int} {k : Nat} (hk : k < 1000) {Q : RV → List SV → Prop} (h : ∀ x, Q (.d (.int x)) [.d (.scr (ns.map .int)), .d (.int k)]) : wF F__law_cell [.d (.scr (ns.map .int)), .d (.int k)] Q := by
  unfold F__law_cell
  rw [wF_run]
  unfold B__law_cell
  simp
  split
  · rename_i hl
    rw [atI_nat (by simpa using hl)]
    simp [h]
  · rw [cutL_to (by omega), ← List.map_take, sumD_lst]
    simp [h]
theorem abcd_at {v : Int} (h0 : 0 ≤ v) (h1 : v < 4) : ∃ c : Nat, atI [97, 98, 99, 100] v = some c ∧ c ∈ [97, 98, 99, 100] := by
  have : v = 0 ∨ v = 1 ∨ v = 2 ∨ v = 3 := by omega
  rcases this with rfl | rfl | rfl | rfl
  · exact ⟨97, by simp, by simp⟩
  · exact ⟨98, by simp, by simp⟩
  · exact ⟨99, by simp, by simp⟩
  · exact ⟨100, by simp, by simp⟩
theorem abcd_v {v : Int} (h0 : 0 ≤ v) (h1 : v < 4) : atI [97, 98, 99, 100] v = some (97 + v.toNat) := by
  have : v = 0 ∨ v = 1 ∨ v = 2 ∨ v = 3 := by omega
  rcases this with rfl | rfl | rfl | rfl <;> simp
theorem sum_signs (cs : List Nat) : ((cs.map fun c => [c]).map (·.length)).sum = cs.length := by
  induction cs with
  | nil => rfl
  | cons c cs ih => simp at ih ⊢; omega
theorem flat_signs (cs : List Nat) : (cs.map fun c => [c]).flatten = cs := by
  induction cs with
  | nil => rfl
  | cons c cs ih => simp at ih ⊢; exact ih
theorem join_signs {cs : List Nat} (h : cs.length ≤ 16777216) : joinD [] [.lst (cs.map fun c => .str [c])] = some (.d (.str cs)) := by
  have e := joinD_lst (cs.map fun c => [c]) (by rw [sum_signs]; exact h)
  rw [flat_signs] at e
  rw [← e, List.map_map]
  rfl
theorem near_ok {n : Nat} {b : List D} {w : List Nat} {m : Nat} {Q : RV → List SV → Prop} (hb : Box n b) (hn : n + 3 ≤ 1000000000) (h0 : 0 < m) (h1 : m ≤ 4) (hw : w.length ≤ 1000) (h : ∀ u b', Box (n + 3) b' → u.length ≤ w.length + 1 → (∀ c ∈ u, c ∈ w ∨ (97 ≤ c ∧ c < 97 + m)) → Q (.d (.str u)) [.own true b', .d (.str w), .d (.int m)]) : wF F__law_near [.own true b, .d (.str w), .d (.int m)] Q := by
  unfold F__law_near
  rw [wF_run]
  unfold B__law_near
  simp
  refine ⟨by omega, take_ok hb (by omega) (by omega) (by omega) fun v b1 hb1 hv0 hv1 => ?_⟩
  simp
  refine take_ok hb1 (by omega) (by omega) (by omega) fun v2 b2 hb2 h20 h21 => ?_
  simp
  refine take_ok hb2 (by omega) (by omega) (by omega) fun u b3 hb3 hu0 hu1 => ?_
  simp
  rw [abcd_v hu0 (by omega)]
  have hc : 97 ≤ 97 + u.toNat ∧ 97 + u.toNat < 97 + m := by omega
  generalize 97 + u.toNat = c at hc
  simp [cutL_to hv0, cutL_from hv0, cutL_from (show 0 ≤ v + 1 by omega), cutL_from (show 0 ≤ v + 2 by omega), cutL_both hv0 (show 0 ≤ v + 1 by omega), cutL_both (show 0 ≤ v + 1 by omega) (show 0 ≤ v + 2 by omega)]
  have hQ : ∀ u, u.length ≤ w.length + 1 → (∀ x ∈ u, x ∈ w ∨ x = c) → Q (.d (.str u)) [.own true b3, .d (.str w), .d (.int m)] := fun u hu hm => h u b3 hb3 hu fun x hx => by
    rcases hm x hx with z | rfl
    · exact .inl z
    · exact .inr hc
  have mt : ∀ {k : Nat} {x : Nat}, x ∈ w.take k → x ∈ w := fun h => List.mem_of_mem_take h
  have md : ∀ {k : Nat} {x : Nat}, x ∈ w.drop k → x ∈ w := fun h => List.mem_of_mem_drop h
  repeat' split
  all_goals and_intros
  all_goals first
    | omega
    | exact hQ _ (by simp; omega) (fun x hx => by
        simp at hx
        first
          | exact .inl hx
          | (rcases hx with hx | hx
             · exact .inl (mt hx)
             · exact .inl (md hx))
          | (rcases hx with hx | hx | hx
             · exact .inl (mt hx)
             · exact .inr hx
             · exact .inl (md hx))
          | (rcases hx with hx | hx | hx | hx
             · exact .inl (mt hx)
             · exact .inl (md (List.mem_of_mem_take hx))
             · exact .inl (md (List.mem_of_mem_take hx))
             · exact .inl (md hx)))
    | exact hQ _ (by simp) (fun x hx => .inl (by simpa using hx))
theorem same_plain {n : Nat} {x : D} {Q : RV → List SV → Prop} (hx : x = .non ∨ (∃ s, x = .str s ∧ s.length ≤ 16777216) ∨ (∃ i, x = .int i) ∨ ∃ b, x = .bl b) (h : Q (.d (.bl true)) [.d x, .d x]) : wF (F__law_same (n + 1)) [.d x, .d x] Q := by
  unfold F__law_same
  rw [wF_run]
  unfold B__law_same
  rcases hx with rfl | ⟨s, rfl, hs⟩ | ⟨i, rfl⟩ | ⟨b, rfl⟩
  · simpa using h
  · simp
    refine ⟨hs, by omega, wC_none (fun x hx => ?_) (by simpa using h) (by simpa using hs)⟩
    obtain ⟨k, hk, rfl⟩ := mem_range_map hx
    simp [cutL_one hk, atI_nat hk]
    exact hs
  · simpa using h
  · simpa using h
theorem same_list {n : Nat} {xs : List D} {Q : RV → List SV → Prop} (hl : xs.length ≤ 16777216) (hx : ∀ x ∈ xs, ∀ Q : RV → List SV → Prop, Q (.d (.bl true)) [.d x, .d x] → wF (F__law_same n) [.d x, .d x] Q) (h : Q (.d (.bl true)) [.d (.lst xs), .d (.lst xs)]) : wF (F__law_same (n + 1)) [.d (.lst xs), .d (.lst xs)] Q := by
  unfold F__law_same
  rw [wF_run]
  unfold B__law_same
  simp
  refine ⟨by omega, wC_none (fun x hx' => ?_) (by simpa using h) (by simpa using hl)⟩
  obtain ⟨k, hk, rfl⟩ := mem_range_map hx'
  simp [atI_nat hk]
  refine hx _ (List.getElem_mem hk) _ ?_
  simp
def Gd : Nat → D → Prop
  | _, .non => True
  | _, .bl _ => True
  | _, .int _ => True
  | _, .str s => s.length ≤ 16777216
  | n + 1, .lst xs => xs.length ≤ 16777216 ∧ ∀ x ∈ xs, Gd n x
  | n + 1, .tup xs => xs.length ≤ 16777216 ∧ ∀ x ∈ xs, Gd n x
  | n + 1, .dct ks xs => ks = [] ∧ xs = [] ∧ 0 < n
  | _, _ => False
theorem same_tup {n : Nat} {xs : List D} {Q : RV → List SV → Prop} (hl : xs.length ≤ 16777216) (hx : ∀ x ∈ xs, ∀ Q : RV → List SV → Prop, Q (.d (.bl true)) [.d x, .d x] → wF (F__law_same n) [.d x, .d x] Q) (h : Q (.d (.bl true)) [.d (.tup xs), .d (.tup xs)]) : wF (F__law_same (n + 1)) [.d (.tup xs), .d (.tup xs)] Q := by
  unfold F__law_same
  rw [wF_run]
  unfold B__law_same
  simp
  refine ⟨by omega, wC_none (fun x hx' => ?_) (by simpa using h) (by simpa using hl)⟩
  obtain ⟨k, hk, rfl⟩ := mem_range_map hx'
  simp [atI_nat hk]
  refine hx _ (List.getElem_mem hk) _ ?_
  simp
theorem same_dct {n : Nat} {Q : RV → List SV → Prop} (hx : ∀ Q : RV → List SV → Prop, Q (.d (.bl true)) [.d (.lst []), .d (.lst [])] → wF (F__law_same n) [.d (.lst []), .d (.lst [])] Q) (h : Q (.d (.bl true)) [.d (.dct [] []), .d (.dct [] [])]) : wF (F__law_same (n + 1)) [.d (.dct [] []), .d (.dct [] [])] Q := by
  unfold F__law_same
  rw [wF_run]
  unfold B__law_same
  simp [itemsOf]
  refine hx _ ?_
  simpa using h
theorem same_ok : ∀ {n : Nat} {x : D} {Q : RV → List SV → Prop}, Gd n x → Q (.d (.bl true)) [.d x, .d x] → wF (F__law_same (n + 1)) [.d x, .d x] Q
  | n, .non, Q, h, hq => same_plain (.inl rfl) hq
  | n, .bl b, Q, h, hq => same_plain (.inr (.inr (.inr ⟨b, rfl⟩))) hq
  | n, .int i, Q, h, hq => same_plain (.inr (.inr (.inl ⟨i, rfl⟩))) hq
  | n, .str s, Q, h, hq => same_plain (.inr (.inl ⟨s, rfl, by cases n <;> exact h⟩)) hq
  | n + 1, .lst xs, Q, h, hq => same_list h.1 (fun x hx Q q => same_ok (h.2 x hx) q) hq
  | n + 1, .tup xs, Q, h, hq => same_tup h.1 (fun x hx Q q => same_ok (h.2 x hx) q) hq
  | n + 1, .dct ks xs, Q, h, hq => by
    obtain ⟨rfl, rfl, hn⟩ := h
    obtain ⟨m, rfl⟩ : ∃ m, n = m + 1 := ⟨n - 1, by omega⟩
    exact same_dct (fun Q q => same_ok (n := m + 1) (x := .lst []) ⟨by simp, fun _ z => by cases z⟩ q) hq
  | 0, .lst xs, Q, h, hq => h.elim
  | 0, .tup xs, Q, h, hq => h.elim
  | 0, .dct ks xs, Q, h, hq => h.elim
  | n, .scr xs, Q, h, hq => by cases n <;> exact h.elim
  | n, .ins _ _ _, Q, h, hq => by cases n <;> exact h.elim
  | n, .ptr _, Q, h, hq => by cases n <;> exact h.elim
  | n, .exn _ _ _ _, Q, h, hq => by cases n <;> exact h.elim
end K54
namespace K54
open PySem PySem.Spec PyProof.Rows L2 TL M
def isI : D → Bool
  | .int _ => true
  | _ => false
def btw (a b : Int) : D → Bool
  | .int i => decide (a ≤ i ∧ i ≤ b)
  | _ => false
theorem is_integer_ok {x : D} {Q : RV → List SV → Prop} (hx : (tyD x).isSome = true) (h : Q (.d (.bl (isI x))) [.d x]) : wF F_is_integer [.d x] Q := by
  unfold F_is_integer
  rw [wF_run]
  unfold B_is_integer
  cases x <;> first | (cases hx; done) | (simp [isI] at h ⊢; exact h)
theorem is_between_ok {x : D} {a b : Int} {Q : RV → List SV → Prop} (hx : (tyD x).isSome = true) (h : Q (.d (.bl (btw a b x))) [.d x, .d (.int a), .d (.int b)]) : wF F_is_between [.d x, .d (.int a), .d (.int b)] Q := by
  unfold F_is_between
  rw [wF_run]
  unfold B_is_between
  simp
  refine is_integer_ok hx ?_
  cases x <;> simp [isI, btw] at h ⊢ <;> try exact h
  rename_i i
  by_cases h1 : a ≤ i
  · simp [h1] at h ⊢; exact h
  · simp [h1] at h ⊢; exact h
abbrev QN := RV → List SV → Ck → Prop
abbrev EN := Er → List SV → Ck → Prop
theorem check_size_ok {x : D} {κ : Ck} {Q : QN} {E : EN} (hx : (tyD x).isSome = true) (h1 : ∀ n, lenD' x = some n → Q (.d .non) [.d x, .d (.int 200), .d (.int 0)] κ) (h2 : lenD' x = none → E ⟨"InvalidLength", ["given"], [x]⟩ [.d x, .d (.int 200), .d (.int 0)] κ) : wN F_check_size [.d x, .d (.int 200), .d (.int 0)] κ Q E := by
  unfold F_check_size
  rw [wN_run]
  unfold B_check_size
  simp
  refine is_between_ok hx ?_
  simp
  have key : btw 0 200 x = (lenD' x).isSome := by
    cases x <;> simp [btw, lenD']
    rename_i i
    by_cases h : 0 ≤ i ∧ i ≤ 200 <;> simp [h]
    omega
  rw [key]
  cases e : lenD' x with
  | none => simp; exact h2 e
  | some n => simp; exact h1 n e
theorem check_place_ok {x : D} {κ : Ck} {Q : QN} {E : EN} (hx : (tyD x).isSome = true) (h1 : ∀ n, idxD x = some n → Q (.d .non) [.d x] κ) (h2 : idxD x = none → E ⟨"InvalidIndex", ["given"], [x]⟩ [.d x] κ) : wN F_check_place [.d x] κ Q E := by
  unfold F_check_place
  rw [wN_run]
  unfold B_check_place
  simp
  refine is_between_ok hx ?_
  simp
  have key : btw 0 1000000000000000000000000000000 x = (idxD x).isSome := by
    cases x <;> simp [btw, idxD]
    rename_i i
    by_cases h : 0 ≤ i ∧ i ≤ 1000000000000000000000000000000 <;> simp [h]
    omega
  rw [key]
  cases e : idxD x with
  | none => simp; exact h2 e
  | some n => simp; exact h1 n e
theorem ones_eq (n : Nat) : ones n = n % 2 + ones (n / 2) := by
  by_cases h : n = 0
  · subst h; simp [ones]
  · conv => lhs; unfold ones
    rw [dif_neg h]
theorem ones_0 : ones 0 = 0 := by unfold ones; simp
theorem letter_of_ok {n : Nat} (hn : n < 2 ^ 200) {Q : RV → List SV → Prop} (h : Q (.d (.str [tLet n])) [.d (.int n)]) : wF F_letter_of [.d (.int n)] Q := by
  unfold F_letter_of
  rw [wF_run]
  unfold B_letter_of
  simp
  refine wW_inv (fun k ρ => ∃ o r : Nat, r < 2 ^ k ∧ o + ones r = ones n ∧ ρ = [some (.d (.int n)), some (.d (.int o)), some (.d (.int r))]) (k := 200) (by decide) ⟨0, n, hn, by omega, rfl⟩ fun k ρ hP => ?_
  obtain ⟨o, r, h1, h2, rfl⟩ := hP
  by_cases h0 : r = 0
  · subst h0
    simp [ones_0] at h2 ⊢
    subst h2
    have : (ones n : Int) % 2 = ((ones n % 2 : Nat) : Int) := by omega
    rw [this, M.atI_nat (by simp; omega)]
    simp
    have e : [97, 98][ones n % 2]'(by simp; omega) = tLet n := by
      unfold tLet
      have : ones n % 2 = 0 ∨ ones n % 2 = 1 := by omega
      rcases this with e | e <;> simp [e]
    rw [e]
    exact h
  · have hr : (0 : Int) < (r : Int) := by omega
    simp [h0, Nat.pos_of_ne_zero h0]
    have hk : k ≠ 0 := by rintro rfl; simp at h1; omega
    refine ⟨k - 1, by omega, o + r % 2, r / 2, ?_, ?_, ?_⟩
    · have : 2 ^ k = 2 * 2 ^ (k - 1) := by rw [← Nat.pow_succ']; congr 1; omega
      omega
    · rw [ones_eq r] at h2; omega
    · simp
theorem tLet_of (n : Nat) : tLet n = 97 ∨ tLet n = 98 := by unfold tLet; omega
theorem part_of_ok {i n : Nat} (hi : i + n < 2 ^ 200) (hn : n ≤ 1000) {Q : RV → List SV → Prop} (h : Q (.d (.str (tPart i n))) [.d (.int i), .d (.int n)]) : wF F_part_of [.d (.int i), .d (.int n)] Q := by
  unfold F_part_of
  rw [wF_run]
  unfold B_part_of
  simp
  refine wC_map (fun _ => true) (fun x => match x with | .int j => .str [tLet j.toNat] | _ => .non) (by simp; omega) (fun x hx => ?_) ?_
  · obtain ⟨k, hk, rfl⟩ := List.mem_map.mp hx
    simp at hk
    have e : (i : Int) + (k : Int) = ((i + k : Nat) : Int) := by omega
    simp only [e]
    simp
    refine letter_of_ok (by omega) ?_
    have e4 : ((i : Int) + (k : Int)).toNat = i + k := by omega
    simp [e4]
  · rw [filter_true, List.map_map]
    have e : ((fun x => match x with | .int j => .str [tLet j.toNat] | _ => .non) ∘ fun (k : Nat) => D.int ((i : Int) + (k : Int))) = (fun c => D.str [c]) ∘ fun k => tLet (i + k) := by
      funext k
      simp
      congr 1
    rw [e, ← List.map_map]
    have e2 : ((i : Int) + (n : Int)).toNat - i = n := by omega
    rw [e2]
    have e3 : (List.range n).map (fun k => tLet (i + k)) = tPart i n := rfl
    rw [e3]
    simp
    rw [join_signs (by unfold tPart; simp; omega)]
    simp
    exact h
theorem thue_prefix_ok {x : D} {κ : Ck} {Q : QN} {E : EN} (hx : (tyD x).isSome = true) (h1 : ∀ n, lenD' x = some n → Q (.d (.str (tPart 0 n))) [.d x] κ) (h2 : lenD' x = none → E ⟨"InvalidLength", ["given"], [x]⟩ [.d x] κ) : wN F_thue_prefix [.d x] κ Q E := by
  unfold F_thue_prefix
  rw [wN_run]
  unfold B_thue_prefix
  simp
  refine check_size_ok hx (fun n hn => ?_) (fun hn => ?_)
  · simp
    have : x = .int n ∧ n ≤ 200 := by
      cases x <;> simp [lenD'] at hn
      obtain ⟨h, rfl⟩ := hn
      simp; omega
    obtain ⟨rfl, hl⟩ := this
    refine part_of_ok (i := 0) (by omega) (by omega) ?_
    simp
    exact h1 n hn
  · simp
    exact h2 hn
theorem idx_of {x : D} {n : Nat} (h : idxD x = some n) : x = .int n ∧ n ≤ 10 ^ 30 := by
  cases x <;> simp [idxD] at h
  obtain ⟨h, rfl⟩ := h
  simp; omega
theorem len_of {x : D} {n : Nat} (h : lenD' x = some n) : x = .int n ∧ n ≤ 200 := by
  cases x <;> simp [lenD'] at h
  obtain ⟨h, rfl⟩ := h
  simp; omega
theorem thue_letter_ok {x : D} {κ : Ck} {Q : QN} {E : EN} (hx : (tyD x).isSome = true) (h1 : ∀ n, idxD x = some n → Q (.d (.str [tLet n])) [.d x] κ) (h2 : idxD x = none → E ⟨"InvalidIndex", ["given"], [x]⟩ [.d x] κ) : wN F_thue_letter [.d x] κ Q E := by
  unfold F_thue_letter
  rw [wN_run]
  unfold B_thue_letter
  simp
  refine check_place_ok hx (fun n hn => ?_) (fun hn => ?_)
  · simp
    obtain ⟨rfl, hl⟩ := idx_of hn
    refine letter_of_ok (by omega) ?_
    simp
    exact h1 n hn
  · simp
    exact h2 hn
theorem thue_part_ok {x y : D} {κ : Ck} {Q : QN} {E : EN} (hx : (tyD x).isSome = true) (hy : (tyD y).isSome = true) (h1 : ∀ i n, idxD x = some i → lenD' y = some n → Q (.d (.str (tPart i n))) [.d x, .d y] κ) (h2 : idxD x = none → E ⟨"InvalidIndex", ["given"], [x]⟩ [.d x, .d y] κ)
    (h3 : ∀ i, idxD x = some i → lenD' y = none → E ⟨"InvalidLength", ["given"], [y]⟩ [.d x, .d y] κ) : wN F_thue_part [.d x, .d y] κ Q E := by
  unfold F_thue_part
  rw [wN_run]
  unfold B_thue_part
  simp
  refine check_place_ok hx (fun i hi => ?_) (fun hn => ?_)
  · simp
    refine check_size_ok hy (fun n hn => ?_) (fun hn => ?_)
    · simp
      obtain ⟨rfl, hl⟩ := idx_of hi
      obtain ⟨rfl, hl2⟩ := len_of hn
      refine part_of_ok (by omega) (by omega) ?_
      simp
      exact h1 i n hi hn
    · simp
      exact h3 i hi hn
  · simp
    exact h2 hn
theorem thue_counts_ok {x : D} {κ : Ck} {Q : QN} {E : EN} (hx : (tyD x).isSome = true) (h1 : ∀ n, idxD x = some n → Q (.d (.tup [.int (tCnt n).1, .int (tCnt n).2])) [.d x] κ) (h2 : idxD x = none → E ⟨"InvalidIndex", ["given"], [x]⟩ [.d x] κ) : wN F_thue_counts [.d x] κ Q E := by
  unfold F_thue_counts
  rw [wN_run]
  unfold B_thue_counts
  simp
  refine check_place_ok hx (fun n hn => ?_) (fun hn => ?_)
  · have q := h1 n hn
    obtain ⟨rfl, hl⟩ := idx_of hn
    unfold tCnt at q
    by_cases hodd : n % 2 = 1
    · have e0 : (n : Int) % 2 = 1 := by omega
      simp [e0]
      have e1 : (n : Int) - 1 = ((n - 1 : Nat) : Int) := by omega
      rw [e1]
      refine letter_of_ok (by omega) ?_
      rcases tLet_of (n - 1) with e | e
      · simp [hodd, e] at q ⊢
        exact q
      · simp [hodd, e] at q ⊢
        exact q
    · have e0 : ¬ (n : Int) % 2 = 1 := by omega
      simp [e0]
      simp [hodd] at q
      exact q
  · simp
    exact h2 hn
end K54
namespace K54
open PySem PySem.Spec PyProof.Rows L2 TL M
theorem told__law_asked (mg : Str → Option Value) : ∀ args r as, F__law_asked args = some (r, as) → runN N__law_asked.length 4 (B__law_asked mg) args [] (fun r' as' κ' => r' = r ∧ as' = as ∧ κ' = []) (fun _ _ _ => False) := by
  intro args r as h
  unfold F__law_asked at h
  split at h
  rotate_left
  · cases h
  rename_i w x y b
  split at h
  rotate_left
  · cases h
  rename_i hxy
  obtain ⟨hx, hy⟩ := hxy
  simp at h
  obtain ⟨rfl, rfl⟩ := h
  refine wN_def.mp ?_
  rw [wN_run]
  unfold B__law_asked
  have eI : erIs "InvalidIndex" "InvalidIndex" = true := by decide
  have eIL : erIs "InvalidLength" "InvalidIndex" = false := by decide
  have eL : erIs "InvalidLength" "InvalidLength" = true := by decide
  have mI : ("InvalidIndex" : Str) ∈ ecs := by decide
  have mL : ("InvalidLength" : Str) ∈ ecs := by decide
  simp
  have sG : ("InvalidIndex" : Str) = "InvalidIndex" := rfl
  by_cases hw : w = cPart
  · subst hw
    have e1 : decide (cPart = [112, 97, 114, 116]) = true := by decide
    simp [e1, asked]
    cases b
    all_goals
      simp
      refine thue_part_ok hx hy (fun i n h1 h2 => ?_) (fun h1 => ?_) (fun i h1 h2 => ?_)
      · simp [h1, h2, cTold]
      · simp [h1]
        rw [nHd_yes eI]
        simp [cIndex, h1]
      · simp [h1, h2]
        rw [nHd_no eIL, nHd_yes eL]
        simp [cLength, h1, h2]
  · have e1 : decide (w = [112, 97, 114, 116]) = false := by simpa [cPart] using hw
    simp [e1, asked, hw]
    by_cases hw2 : w = cPrefix
    · subst hw2
      have e2 : decide (cPrefix = [112, 114, 101, 102, 105, 120]) = true := by decide
      simp [e2]
      cases b
      all_goals
        simp
        refine thue_prefix_ok hy (fun n h1 => ?_) (fun h1 => ?_)
        · simp [h1, cTold, hw]
        · simp [h1, hw]
          rw [nHd_no eIL, nHd_yes eL]
          simp [cLength, h1, hw]
    · have e2 : decide (w = [112, 114, 101, 102, 105, 120]) = false := by simpa [cPrefix] using hw2
      simp [e2, hw2]
      by_cases hw3 : w = cLetter
      · subst hw3
        have e3 : cLetter = [108, 101, 116, 116, 101, 114] := rfl
        simp [e3]
        cases b
        all_goals
          simp
          refine .inl ⟨by simp [At], ?_⟩
          refine thue_letter_ok hx (fun n h1 => ?_) (fun h1 => ?_)
          · simp [h1, cTold, hw, hw2]
          · simp [h1, hw, hw2]
            rw [nHd_yes eI]
            simp [cIndex, h1, hw, hw2]
      · have e3 : ¬ w = [108, 101, 116, 116, 101, 114] := by simpa [cLetter] using hw3
        simp [e3, hw3]
        cases b
        all_goals
          simp
          refine .inr ⟨by simp [At], ?_⟩
          refine thue_counts_ok hx (fun n h1 => ?_) (fun h1 => ?_)
          · simp [h1, cTold, hw, hw2, hw3]
          · simp [h1, hw, hw2, hw3]
            rw [nHd_yes eI]
            simp [cIndex, h1, hw, hw2, hw3]
end K54
namespace K54
open PySem PySem.Spec PyProof.Rows L2 TL M
theorem findSome_hit {β : Type} {f : Nat → Option β} : ∀ {i a n : Nat} {x : β}, i < n → (∀ j, j < i → f (a + j) = none) → f (a + i) = some x → (List.range' a n).findSome? f = some x
  | i, a, 0, x, h, _, _ => by omega
  | 0, a, n + 1, x, h, _, h1 => by
    have h1 : f a = some x := h1
    rw [List.range'_succ, List.findSome?_cons, h1]
  | i + 1, a, n + 1, x, h, h0, h1 => by
    have e : f a = none := h0 0 (by omega)
    rw [List.range'_succ, List.findSome?_cons, e]
    refine findSome_hit (i := i) (by omega) (fun j hj => ?_) ?_
    · have := h0 (j + 1) (by omega)
      rw [show a + 1 + j = a + (j + 1) by omega]; exact this
    · rw [show a + 1 + i = a + (i + 1) by omega]; exact h1
theorem findSome_none {β : Type} {f : Nat → Option β} : ∀ {n a : Nat}, (∀ j, j < n → f (a + j) = none) → (List.range' a n).findSome? f = none
  | 0, a, _ => rfl
  | n + 1, a, h => by
    have e : f a = none := h 0 (by omega)
    rw [List.range'_succ, List.findSome?_cons, e]
    refine findSome_none fun j hj => ?_
    have := h (j + 1) (by omega)
    rw [show a + 1 + j = a + (j + 1) by omega]; exact this
theorem rev_succ (m : Nat) : (List.range' 1 (m + 1)).reverse = (m + 1) :: (List.range' 1 m).reverse := by
  rw [List.range'_concat, List.reverse_append]
  simp; omega
theorem find_rev_some {p : Nat → Bool} : ∀ {m k : Nat}, 1 ≤ k → k ≤ m → p k = true → (∀ q, k < q → q ≤ m → p q = false) → (List.range' 1 m).reverse.find? p = some k
  | 0, k, h1, h2, _, _ => by omega
  | m + 1, k, h1, h2, h3, h4 => by
    rw [rev_succ, List.find?_cons]
    by_cases e : k = m + 1
    · subst e; rw [h3]
    · rw [h4 (m + 1) (by omega) (Nat.le_refl _)]
      exact find_rev_some h1 (by omega) h3 fun q g1 g2 => h4 q g1 (by omega)
theorem find_rev_none {p : Nat → Bool} : ∀ {m : Nat}, (∀ q, 1 ≤ q → q ≤ m → p q = false) → (List.range' 1 m).reverse.find? p = none
  | 0, _ => rfl
  | m + 1, h => by
    rw [rev_succ, List.find?_cons, h (m + 1) (by omega) (Nat.le_refl _)]
    exact find_rev_none fun q g1 g2 => h q g1 (by omega)
theorem ovEnd_some {s : List Nat} {e k : Nat} (h1 : 1 ≤ k) (h2 : k ≤ (e - 1) / 2) (h3 : ovAt s e k = true) (h4 : ∀ q, k < q → q ≤ (e - 1) / 2 → ovAt s e q = false) : ovEnd s e = some (e, e - 2 * k - 1) := by
  unfold ovEnd
  rw [find_rev_some h1 h2 h3 h4]; rfl
theorem ovEnd_none {s : List Nat} {e : Nat} (h : ∀ q, 1 ≤ q → q ≤ (e - 1) / 2 → ovAt s e q = false) : ovEnd s e = none := by
  unfold ovEnd
  rw [find_rev_none h]; rfl
def ovD (s : List Nat) : D := match ovl s with
  | none => .non
  | some (e, st) => .tup [.int e, .int st]
theorem cut_ov {s : List Nat} {e p : Nat} (hp : 2 * p + 1 ≤ e) : cutL s (some ((e : Int) - 2 * (p : Int) - 1)) (some ((e : Int) - (p : Int))) = (s.drop (e - 2 * p - 1)).take (p + 1) := by
  rw [cutL_both (by omega) (by omega)]
  congr 1
  · omega
  · congr 1; omega
theorem cut_ov2 {s : List Nat} {e p : Nat} (hp : 2 * p + 1 ≤ e) : cutL s (some ((e : Int) - 2 * (p : Int) - 1 + (p : Int))) (some (e : Int)) = (s.drop (e - p - 1)).take (p + 1) := by
  rw [cutL_both (by omega) (by omega)]
  congr 1
  · omega
  · congr 1; omega
theorem overlap_place_ok {s : List Nat} (hs : s.length ≤ 100000) {Q : RV → List SV → Prop} (h : Q (.d (ovD s)) [.d (.str s)]) : wF F_overlap_place [.d (.str s)] Q := by
  unfold F_overlap_place
  rw [wF_run]
  unfold B_overlap_place
  simp
  refine ⟨by omega, by omega, wR_inv (fun i ρ => (∀ j, j < i → ovEnd s (3 + j) = none) ∧ ∃ o1 o2 o3, ρ = [some (.d (.str s)), o1, o2, o3]) (k := 0) ⟨fun j hj => by omega, _, _, _, rfl⟩ (fun i x ρ hx hP => ?_) fun ρ hP => ?_⟩
  · obtain ⟨h0, o1, o2, o3, rfl⟩ := hP
    obtain ⟨hi, rfl⟩ := range_at hx
    simp at h0
    simp
    generalize he : 3 + i = e
    have ee : (3 : Int) + (i : Int) = (e : Int) := by omega
    simp only [ee]
    refine ⟨by omega, wR_inv (fun t ρ => (∀ q, (e - 1) / 2 - t < q → q ≤ (e - 1) / 2 → ovAt s e q = false) ∧ ∃ o2 o3, ρ = [some (.d (.str s)), some (.d (.int e)), o2, o3]) (k := 0) ⟨fun q h1 h2 => by omega, _, _, rfl⟩ (fun t x ρ hx hP => ?_) fun ρ hP => ?_⟩
    · obtain ⟨h1, o2, o3, rfl⟩ := hP
      obtain ⟨ht, rfl⟩ := range_at hx
      simp at h1
      have ep : ((e : Int) - 1) / 2 + -(t : Int) = (((e - 1) / 2 - t : Nat) : Int) := by omega
      generalize hp : (e - 1) / 2 - t = p at *
      simp [ep]
      have hp1 : 2 * p + 1 ≤ e := by omega
      rw [cut_ov hp1, cut_ov2 hp1]
      refine ⟨by omega, ?_⟩
      split
      · rename_i heq
        have e1 := ovEnd_some (s := s) (e := e) (k := p) (by omega) (by omega) (by simp [ovAt, heq]) (fun q g1 g2 => h1 q g1 g2)
        have e2 : ovl s = some (e, e - 2 * p - 1) := findSome_hit (i := i) (by omega) (fun j hj => h0 j hj) (by rw [he]; exact e1)
        have e3 : ovD s = .tup [.int (e : Int), .int ((e : Int) - 2 * (p : Int) - 1)] := by
          unfold ovD
          rw [e2]
          have : (((e - 2 * p - 1 : Nat) : Int)) = (e : Int) - 2 * (p : Int) - 1 := by omega
          show D.tup [.int (e : Int), .int ((e - 2 * p - 1 : Nat) : Int)] = _
          rw [this]
        rw [e3] at h
        exact h
      · rename_i heq
        intro q g1 g2
        by_cases hq : q = p
        · subst hq
          simp [ovAt, heq]
        · exact h1 q (by omega) g2
    · obtain ⟨h1, o2, o3, rfl⟩ := hP
      simp at h1 ⊢
      intro j hj
      by_cases hj2 : j = i
      · subst hj2
        rw [he]
        exact ovEnd_none fun q g1 g2 => h1 q (by omega) g2
      · exact h0 j (by omega)
  · obtain ⟨h0, o1, o2, o3, rfl⟩ := hP
    simp at h0 ⊢
    have e2 : ovl s = none := findSome_none fun j hj => h0 j (by omega)
    unfold ovD at h
    rw [e2] at h
    exact h
end K54
namespace K54
open PySem PySem.Spec PyProof.Rows L2 TL M
theorem letters2_ok {s : List Nat} (hs : s.length ≤ 16777216) {Q : RV → List SV → Prop} (h : Q (.d (.bl (decide (s.length ≤ 200 ∧ s.all (fun c => c == 97 || c == 98) = true)))) [.d (.str s), .d (.int 2), .d (.int 200)]) : wF F_is_letters [.d (.str s), .d (.int 2), .d (.int 200)] Q := by
  unfold F_is_letters
  rw [wF_run]
  unfold B_is_letters
  by_cases hl : s.length ≤ 200
  · have e0 : ((200 : Int) < s.length) = False := eq_false (by omega)
    simp [e0, hl] at h ⊢
    refine ⟨hs, wC_map (fun _ => true) (fun x => .bl (match x with | .str [c] => c == 97 || c == 98 | _ => false)) (by simp; omega) (fun x hx => ?_) ?_⟩
    · obtain ⟨c, hc, rfl⟩ := List.mem_map.mp hx
      simp [cutL_to (show (0 : Int) ≤ 2 by decide)]
      rw [Bool.eq_iff_iff]
      simp
    · rw [filter_true, List.map_map]
      have e : (fun x => D.bl (match x with | .str [c] => c == 97 || c == 98 | _ => false)) ∘ (fun c => D.str [c]) = D.bl ∘ fun c => (c == 97 || c == 98) := by
        funext c; rfl
      rw [e, ← List.map_map]
      simp
      rw [allD_comp]
      simp
      have e2 : (s.all fun c => (c == 97 || c == 98)) = decide (∀ x ∈ s, x = 97 ∨ x = 98) := by
        rw [Bool.eq_iff_iff]
        simp
      rw [e2]
      exact h
  · have e0 : ((200 : Int) < s.length) = True := eq_true (by omega)
    simp [e0, hl] at h ⊢
    exact ⟨by omega, h⟩
theorem check_word_ok {x : D} {κ : Ck} {Q : QN} {E : EN} (hx : (tyD x).isSome = true) (hx2 : okL x = true) (h1 : ∀ s, w2D x = some s → Q (.d .non) [.d x, .d (.int 2), .d (.int 200)] κ) (h2 : w2D x = none → E ⟨"InvalidWord", ["given"], [x]⟩ [.d x, .d (.int 2), .d (.int 200)] κ) : wN F_check_word [.d x, .d (.int 2), .d (.int 200)] κ Q E := by
  have no : ∀ {Q : RV → List SV → Prop}, (∀ s, x ≠ .str s) → Q (.d (.bl false)) [.d x, .d (.int 2), .d (.int 200)] → wF F_is_letters [.d x, .d (.int 2), .d (.int 200)] Q := fun {Q} hs h => by
    unfold F_is_letters
    rw [wF_run]
    unfold B_is_letters
    cases x <;> first | (cases hx; done) | exact absurd rfl (hs _) | (simp; exact h)
  unfold F_check_word
  rw [wN_run]
  unfold B_check_word
  simp
  by_cases hs : ∃ s, x = .str s
  · obtain ⟨s, rfl⟩ := hs
    refine letters2_ok (by simpa [okL] using hx2) ?_
    unfold w2D at h1 h2
    by_cases hc : s.length ≤ 200 ∧ s.all (fun c => c == 97 || c == 98) = true
    · rw [decide_eq_true hc]
      simp
      exact h1 s (if_pos hc)
    · rw [decide_eq_false hc]
      simp
      exact h2 (if_neg hc)
  · have hs' : ∀ s, x ≠ .str s := fun s e => hs ⟨s, e⟩
    refine no hs' ?_
    simp
    refine h2 ?_
    unfold w2D
    split
    · exact absurd rfl (hs' _)
    · rfl
theorem check_free_ok {s : List Nat} (hs : s.length ≤ 100000) {κ : Ck} {Q : QN} {E : EN} (h1 : ovl s = none → Q (.d .non) [.d (.str s)] κ) (h2 : ∀ e st, ovl s = some (e, st) → E ⟨"HasOverlap", ["start", "end"], [.int st, .int e]⟩ [.d (.str s)] κ) : wN F_check_free [.d (.str s)] κ Q E := by
  unfold F_check_free
  rw [wN_run]
  unfold B_check_free
  simp
  refine overlap_place_ok hs ?_
  unfold ovD
  cases e : ovl s with
  | none => simp; exact h1 e
  | some p =>
    obtain ⟨a, b⟩ := p
    simp
    exact h2 a b e
def hd0 : List Nat → Nat
  | [] => 0
  | a :: _ => a
def pairsOf (l : List Nat) : List (List Nat) := (List.range ((l.length + 1) / 2)).map fun k => (l.drop (2 * k)).take 2
theorem pairs_cons (a b : Nat) (t : List Nat) : pairsOf (a :: b :: t) = [a, b] :: pairsOf t := by
  unfold pairsOf
  have e : ((a :: b :: t).length + 1) / 2 = (t.length + 1) / 2 + 1 := by simp; omega
  rw [e, List.range_succ_eq_map, List.map_cons, List.map_map]
  congr 1
def ab2 : List (List Nat) := [[97, 98], [98, 97]]
theorem pairs_halve : ∀ l : List Nat, (pairsOf l).all (fun p => decide (p ∈ ab2)) = (halve l).isSome ∧ ∀ y, halve l = some y → (pairsOf l).map (fun p => hd0 p) = y ∧ ∀ p ∈ pairsOf l, p.length = 2
  | [] => by simp [pairsOf, halve]
  | [a] => by simp [pairsOf, halve, ab2]
  | a :: b :: t => by
    obtain ⟨h1, h2⟩ := pairs_halve t
    rw [pairs_cons]
    unfold halve
    by_cases h : (a = 97 ∧ b = 98) ∨ (a = 98 ∧ b = 97)
    · rw [if_pos h]
      have hm : decide ([a, b] ∈ ab2) = true := by
        rcases h with ⟨rfl, rfl⟩ | ⟨rfl, rfl⟩ <;> decide
      refine ⟨by rw [List.all_cons, hm, h1]; simp, fun y hy => ?_⟩
      obtain ⟨z, hz, rfl⟩ := Option.map_eq_some_iff.mp hy
      obtain ⟨g1, g2⟩ := h2 z hz
      refine ⟨by rw [List.map_cons, g1]; rfl, fun p hp => ?_⟩
      rcases List.mem_cons.mp hp with rfl | hp
      · rfl
      · exact g2 p hp
    · rw [if_neg h]
      have hm : decide ([a, b] ∈ ab2) = false := by
        rw [decide_eq_false_iff_not]
        simp [ab2]
        omega
      exact ⟨by rw [List.all_cons, hm]; simp, fun y hy => by cases hy⟩
def halveD (l : List Nat) : D := match halve l with
  | some y => .str y
  | none => .non
theorem stepN_2 (n : Nat) : stepN 0 (n : Int) 2 = (n + 1) / 2 := by
  unfold stepN
  split <;> omega
theorem halved_ok {l : List Nat} (hl : l.length ≤ 100000) {Q : RV → List SV → Prop} (h : Q (.d (halveD l)) [.d (.str l)]) : wF F_halved [.d (.str l)] Q := by
  unfold F_halved
  rw [wF_run]
  unfold B_halved
  obtain ⟨p1, p2⟩ := pairs_halve l
  have hpl : (pairsOf l).length ≤ 100000 := by unfold pairsOf; simp; omega
  simp [stepN_2]
  refine ⟨by omega, by omega, wC_map (fun _ => true) (fun x => match x with | .int j => .str ((l.drop j.toNat).take 2) | _ => .non) (by simp; omega) (fun x hx => ?_) ?_⟩
  · obtain ⟨k, hk, rfl⟩ := List.mem_map.mp hx
    simp
    refine ⟨by omega, ?_⟩
    rw [cutL_both (by omega) (by omega)]
    congr 1
    omega
  · rw [filter_true, List.map_map]
    have e : (fun x => match x with | .int j => .str ((l.drop j.toNat).take 2) | _ => .non) ∘ (fun (k : Nat) => D.int ((k : Int) * 2)) = D.str ∘ fun k => (l.drop (2 * k)).take 2 := by
      funext k
      simp
      congr 2
      omega
    rw [e, ← List.map_map]
    have e3 : (List.range ((l.length + 1) / 2)).map (fun k => (l.drop (2 * k)).take 2) = pairsOf l := rfl
    rw [e3]
    simp
    refine wC_map (fun _ => true) (fun x => .bl (match x with | .str p => decide (p ∈ ab2) | _ => false)) (by simp; omega) (fun x hx => ?_) ?_
    · obtain ⟨p, hp, rfl⟩ := List.mem_map.mp hx
      have e4 : inD (.str p) (.tup [.str [97, 98], .str [98, 97]]) = some (.d (.bl (decide (p ∈ ab2)))) := inD_strs (ts := ab2)
      simp [e4]
    · rw [filter_true, List.map_map]
      have e5 : (fun x => D.bl (match x with | .str p => decide (p ∈ ab2) | _ => false)) ∘ D.str = D.bl ∘ fun p => decide (p ∈ ab2) := by
        funext p; rfl
      rw [e5, ← List.map_map]
      simp
      rw [allD_comp, p1]
      unfold halveD at h
      cases e7 : halve l with
      | none => rw [e7] at h; simp; exact h
      | some y =>
        rw [e7] at h
        obtain ⟨g1, g2⟩ := p2 y e7
        simp
        refine wC_map (fun _ => true) (fun x => .str [match x with | .str p => hd0 p | _ => 0]) (by simp; omega) (fun x hx => ?_) ?_
        · obtain ⟨p, hp, rfl⟩ := List.mem_map.mp hx
          have := g2 p hp
          match p, this with
          | [a, b], _ => simp [hd0]
        · rw [filter_true, List.map_map]
          have e8 : (fun x => D.str [match x with | .str p => hd0 p | _ => 0]) ∘ D.str = (fun c => D.str [c]) ∘ fun p => hd0 p := by
            funext p; rfl
          rw [e8, ← List.map_map, g1]
          simp
          have hyl : y.length ≤ 100000 := by rw [← g1]; simp; omega
          rw [join_signs (by omega)]
          simp
          exact h
end K54
namespace K54
open PySem PySem.Spec PyProof.Rows L2 TL M
theorem fs_hit {α β : Type} {f : α → Option β} : ∀ {l : List α} {i : Nat} {x : α} {y : β}, l[i]? = some x → (∀ j z, j < i → l[j]? = some z → f z = none) → f x = some y → l.findSome? f = some y
  | [], i, x, y, h, _, _ => by simp at h
  | a :: l, 0, x, y, h, _, h1 => by
    simp at h; subst h
    rw [List.findSome?_cons, h1]
  | a :: l, i + 1, x, y, h, h0, h1 => by
    have e := h0 0 a (by omega) rfl
    rw [List.findSome?_cons, e]
    exact fs_hit (i := i) (by simpa using h) (fun j z hj hz => h0 (j + 1) z (by omega) (by simpa using hz)) h1
theorem fs_none {α β : Type} {f : α → Option β} {l : List α} (h : ∀ (j : Nat) z, l[j]? = some z → f z = none) : l.findSome? f = none := by
  rw [List.findSome?_eq_none_iff]
  intro x hx
  obtain ⟨j, hj⟩ := List.getElem?_of_mem hx
  exact h j x hj
def peelX (s x z : List Nat) : Option (List Nat × List Nat × List Nat) := (peelAt s x z).map fun y => (x, y, z)
theorem ends_len {x : List Nat} (h : x ∈ ends5) : x.length ≤ 2 := by
  simp [ends5] at h
  rcases h with rfl | rfl | rfl | rfl | rfl <;> simp
theorem cut_inner {s x z : List Nat} (hx : x.length ≤ 2) (hz : z.length ≤ 2) (hs : 7 ≤ s.length) : cutL s (some (x.length : Int)) (some ((s.length : Int) - (z.length : Int))) = inner s x z := by
  rw [cutL_both (by omega) (by omega)]
  unfold inner
  congr 1
  omega
theorem peeled_ok {x : D} {κ : Ck} {Q : QN} {E : EN} (hx : (tyD x).isSome = true) (hx2 : okL x = true)
    (h1 : w2D x = none → E ⟨"InvalidWord", ["given"], [x]⟩ [.d x] κ)
    (h2 : ∀ s, w2D x = some s → s.length < 7 → E ⟨"TooShort", ["word"], [x]⟩ [.d x] κ)
    (h3 : ∀ s e st, w2D x = some s → 7 ≤ s.length → ovl s = some (e, st) → E ⟨"HasOverlap", ["start", "end"], [.int st, .int e]⟩ [.d x] κ)
    (h4 : ∀ s, w2D x = some s → 7 ≤ s.length → ovl s = none → Q (.d (peelD s)) [.d x] κ) : wN F_peeled [.d x] κ Q E := by
  unfold F_peeled
  rw [wN_run]
  unfold B_peeled
  simp
  refine check_word_ok hx hx2 (fun s hs => ?_) (fun hs => ?_)
  rotate_left
  · simp; exact h1 hs
  have hsx : x = .str s ∧ s.length ≤ 200 := by
    unfold w2D at hs
    split at hs
    · split at hs
      · rename_i h; cases hs; exact ⟨rfl, h.1⟩
      · cases hs
    · cases hs
  obtain ⟨rfl, hl⟩ := hsx
  simp
  refine ⟨by omega, ?_⟩
  by_cases h7 : s.length < 7
  · have e7 : decide ((s.length : Int) < 7) = true := by simp; omega
    simp [e7]
    exact h2 s hs h7
  have e7 : decide ((s.length : Int) < 7) = false := by simp; omega
  simp [e7]
  refine check_free_ok (by omega) (fun ho => ?_) (fun e st ho => ?_)
  rotate_left
  · simp; exact h3 s e st hs (by omega) ho
  simp
  have fin := h4 s hs (by omega) ho
  refine wR_inv (fun i ρ => (∀ j u, j < i → ends5[j]? = some u → ends5.findSome? (peelX s u) = none) ∧ ∃ o1 o2 o3, ρ = [some (.d (.str s)), o1, o2, o3]) (k := 0) ⟨fun j u hj => by omega, _, _, _, rfl⟩ (fun i y ρ hy hP => ?_) fun ρ hP => ?_
  · obtain ⟨h0, o1, o2, o3, rfl⟩ := hP
    have hy : (ends5.map D.str)[i]? = some y := hy
    obtain ⟨u, hu, rfl⟩ := map_at hy
    have hul := ends_len (List.mem_of_getElem? hu)
    simp only [Nat.zero_add] at h0
    simp
    refine wR_inv (fun t ρ => (∀ j z, j < t → ends5[j]? = some z → peelX s u z = none) ∧ ∃ o2 o3, ρ = [some (.d (.str s)), some (.d (.str u)), o2, o3]) (k := 0) ⟨fun j u hj => by omega, _, _, rfl⟩ (fun t y ρ hy hP => ?_) fun ρ hP => ?_
    · obtain ⟨h1', o2, o3, rfl⟩ := hP
      have hy : (ends5.map D.str)[t]? = some y := hy
      obtain ⟨z, hz, rfl⟩ := map_at hy
      have hzl := ends_len (List.mem_of_getElem? hz)
      simp at h1' ⊢
      rw [cut_inner hul hzl (by omega)]
      have hil : (inner s u z).length ≤ 100000 := by unfold inner; simp; omega
      refine ⟨by omega, by omega, by omega, by omega, ?_⟩
      have next : peelX s u z = none → ∀ j w, j < t + 1 → ends5[j]? = some w → peelX s u w = none := fun h j w hj hw => by
        by_cases e : j = t
        · subst e; rw [hz] at hw; cases hw; exact h
        · exact h1' j w (by omega) hw
      by_cases c1 : u <+: s
      · rw [if_pos c1]
        by_cases c2 : z <:+ s
        · rw [if_pos c2]
          refine halved_ok hil ?_
          unfold halveD
          cases e : halve (inner s u z) with
          | none =>
            simp
            refine next ?_
            unfold peelX peelAt
            rw [if_pos ⟨List.isPrefixOf_iff_prefix.mpr c1, List.isSuffixOf_iff_suffix.mpr c2⟩, e]; rfl
          | some v =>
            simp
            refine halved_ok hil ?_
            unfold halveD
            rw [e]
            simp
            have e1 : peelX s u z = some (u, v, z) := by
              unfold peelX peelAt
              rw [if_pos ⟨List.isPrefixOf_iff_prefix.mpr c1, List.isSuffixOf_iff_suffix.mpr c2⟩, e]; rfl
            have e2 : ends5.findSome? (peelX s u) = some (u, v, z) := fs_hit hz h1' e1
            have e3 : peel s = some (u, v, z) := fs_hit (f := fun x => ends5.findSome? (peelX s x)) hu h0 e2
            have e4 : peelD s = .tup [.str u, .str v, .str z] := by
              unfold peelD
              rw [e3]
            rw [e4] at fin
            exact fin
        · rw [if_neg c2]
          refine next ?_
          unfold peelX peelAt
          rw [if_neg (fun z => c2 (List.isSuffixOf_iff_suffix.mp z.2))]; rfl
      · rw [if_neg c1]
        refine next ?_
        unfold peelX peelAt
        rw [if_neg (fun z => c1 (List.isPrefixOf_iff_prefix.mp z.1))]; rfl
    · obtain ⟨h1', o2, o3, rfl⟩ := hP
      simp only [Nat.zero_add] at h1'
      refine ⟨fun j w hj hw => ?_, _, _, _, rfl⟩
      by_cases e : j = i
      · subst e
        rw [hu] at hw; cases hw
        exact fs_none fun j z hz => h1' j z (by
          have := (List.getElem?_eq_some_iff.mp hz).1
          simpa [ends5] using this) hz
      · exact h0 j w (by omega) hw
  · obtain ⟨h0, o1, o2, o3, rfl⟩ := hP
    simp only [Nat.zero_add] at h0
    simp
    have e3 : peel s = none := fs_none (f := fun x => ends5.findSome? (peelX s x)) fun j u hu => h0 j u (by
      have := (List.getElem?_eq_some_iff.mp hu).1
      simpa [ends5] using this) hu
    have e4 : peelD s = .non := by
      unfold peelD
      rw [e3]
    rw [e4] at fin
    exact fin
theorem told__law_peeled : ∀ args r as, F__law_peeled args = some (r, as) → runN N__law_peeled.length 2 B__law_peeled args [] (fun r' as' κ' => r' = r ∧ as' = as ∧ κ' = []) (fun _ _ _ => False) := by
  intro args r as h
  unfold F__law_peeled at h
  split at h
  rotate_left
  · cases h
  rename_i x b
  split at h
  rotate_left
  · cases h
  rename_i hx
  obtain ⟨hx, hx2⟩ := hx
  simp at h
  obtain ⟨rfl, rfl⟩ := h
  refine wN_def.mp ?_
  rw [wN_run]
  unfold B__law_peeled
  have a1 : erIs "InvalidWord" "InvalidWord" = true := by decide
  have a2 : erIs "TooShort" "InvalidWord" = false := by decide
  have a3 : erIs "TooShort" "TooShort" = true := by decide
  have a4 : erIs "HasOverlap" "InvalidWord" = false := by decide
  have a5 : erIs "HasOverlap" "TooShort" = false := by decide
  have a6 : erIs "HasOverlap" "HasOverlap" = true := by decide
  have a7 : lkD ["start", "end"] = lkD ["start", "end"] := rfl
  simp
  cases b
  all_goals
    simp
    refine peeled_ok hx hx2 (fun h1 => ?_) (fun s h1 h2 => ?_) (fun s e st h1 h2 h3 => ?_) (fun s h1 h2 h3 => ?_)
    · simp
      rw [nHd_yes a1]
      simp [peeledL, h1, cWord]
    · simp
      rw [nHd_no a2, nHd_yes a3]
      simp [peeledL, h1, h2, cShort]
    · simp
      rw [nHd_no a4, nHd_no a5, nHd_yes a6]
      have e1 : ∀ a b : D, lkD ["start", "end"] [a, b] "end" = some b := fun a b => by
        unfold lkD
        rw [if_neg (by decide)]
        simp
      simp [peeledL, h1, h3, cOverlap, Nat.not_lt.mpr h2, e1]
    · simp [peeledL, h1, h3, cTold, Nat.not_lt.mpr h2]
end K54
namespace K54
open PySem PySem.Spec PyProof.Rows L2 TL M
def NoOv (g : Nat → Nat) (n : Nat) : Prop := ∀ st p, 1 ≤ p → st + 2 * p + 1 ≤ n → ¬ ∀ k, k ≤ p → g (st + k) = g (st + p + k)
def Bin (g : Nat → Nat) (n : Nat) : Prop := ∀ i, i < n → g i = 97 ∨ g i = 98
theorem NoOv.one {g : Nat → Nat} {n : Nat} (no : NoOv g n) {i : Nat} (hi : i + 3 ≤ n) (h1 : g i = g (i + 1)) (h2 : g (i + 1) = g (i + 2)) : False :=
  no i 1 (Nat.le_refl _) hi fun k hk => by
    rcases (by omega : k = 0 ∨ k = 1) with rfl | rfl
    · exact h1
    · exact h2
theorem NoOv.two {g : Nat → Nat} {n : Nat} (no : NoOv g n) {i : Nat} (hi : i + 5 ≤ n) (h1 : g i = g (i + 2)) (h2 : g (i + 1) = g (i + 3)) (h3 : g (i + 2) = g (i + 4)) : False :=
  no i 2 (by omega) hi fun k hk => by
    rcases (by omega : k = 0 ∨ k = 1 ∨ k = 2) with rfl | rfl | rfl
    · exact h1
    · exact h2
    · exact h3
theorem NoOv.three {g : Nat → Nat} {n : Nat} (no : NoOv g n) {i : Nat} (hi : i + 7 ≤ n) (h1 : g i = g (i + 3)) (h2 : g (i + 1) = g (i + 4)) (h3 : g (i + 2) = g (i + 5)) (h4 : g (i + 3) = g (i + 6)) : False :=
  no i 3 (by omega) hi fun k hk => by
    rcases (by omega : k = 0 ∨ k = 1 ∨ k = 2 ∨ k = 3) with rfl | rfl | rfl | rfl
    · exact h1
    · exact h2
    · exact h3
    · exact h4
theorem dbl_even {g : Nat → Nat} {n : Nat} (hab : Bin g n) (no : NoOv g n) (d : Nat) : ∀ i, i + d + 4 ≤ n → g (i + 1) = g (i + 2) → g (i + 1 + d) = g (i + 2 + d) → d % 2 = 0 := by
  induction d using Nat.strongRecOn with
  | _ d ih =>
    intro i hi h1 h2
    by_cases hd : d % 2 = 0
    · exact hd
    exfalso
    by_cases hk : ∃ k, 0 < k ∧ k < d ∧ g (i + 1 + k) = g (i + 2 + k)
    · obtain ⟨k, k0, k1, hk⟩ := hk
      have e1 := ih k k1 i (by omega) h1 hk
      have e2 := ih (d - k) (by omega) (i + k) (by omega) (by
        rw [show i + k + 1 = i + 1 + k by omega, show i + k + 2 = i + 2 + k by omega]; exact hk) (by
        rw [show i + k + 1 + (d - k) = i + 1 + d by omega, show i + k + 2 + (d - k) = i + 2 + d by omega]; exact h2)
      omega
    have ne : ∀ k, 0 < k → k < d → g (i + 1 + k) ≠ g (i + 2 + k) := fun k k0 k1 e => hk ⟨k, k0, k1, e⟩
    have b0 := hab i (by omega)
    have b1 := hab (i + 1) (by omega)
    have b2 := hab (i + 2) (by omega)
    have b3 := hab (i + 3) (by omega)
    by_cases d1 : d = 1
    · subst d1
      exact no.one (i := i + 1) (by omega) h1 h2
    have n1 : g (i + 2) ≠ g (i + 3) := ne 1 (by omega) (by omega)
    have n2 : g (i + 3) ≠ g (i + 4) := ne 2 (by omega) (by omega)
    have b4 := hab (i + 4) (by omega)
    have b5 := hab (i + 5) (by omega)
    by_cases d3 : d = 3
    · subst d3
      have h2 : g (i + 4) = g (i + 5) := h2
      have b6 := hab (i + 6) (by omega)
      have c0 : g i ≠ g (i + 1) := fun e => no.one (i := i) (by omega) e h1
      have c6 : g (i + 5) ≠ g (i + 6) := fun e => no.one (i := i + 4) (by omega) h2 e
      exact no.three (i := i) (by omega) (by omega) (by omega) (by omega) (by omega)
    · have n3 : g (i + 4) ≠ g (i + 5) := ne 3 (by omega) (by omega)
      have n4 : g (i + 5) ≠ g (i + 6) := ne 4 (by omega) (by omega)
      have b6 := hab (i + 6) (by omega)
      exact no.two (i := i + 2) (by omega) (show g (i + 2) = g (i + 4) by omega) (show g (i + 3) = g (i + 5) by omega) (show g (i + 4) = g (i + 6) by omega)
def Good (g : Nat → Nat) (n q : Nat) : Prop := ∀ i, i % 2 = q → 1 ≤ i → i + 3 ≤ n → g i ≠ g (i + 1)
theorem some_good {g : Nat → Nat} {n : Nat} (hab : Bin g n) (no : NoOv g n) : Good g n 0 ∨ Good g n 1 := by
  by_cases h0 : Good g n 0
  · exact .inl h0
  by_cases h1 : Good g n 1
  · exact .inr h1
  exfalso
  have ex : ∀ q, ¬ Good g n q → ∃ i, i % 2 = q ∧ 1 ≤ i ∧ i + 3 ≤ n ∧ g i = g (i + 1) := fun q h => by
    refine Classical.byContradiction fun z => h fun i a1 a2 a3 e => z ⟨i, a1, a2, a3, e⟩
  obtain ⟨i, i1, i2, i3, i4⟩ := ex 0 h0
  obtain ⟨j, j1, j2, j3, j4⟩ := ex 1 h1
  rcases Nat.lt_or_ge i j with h | h
  · have := dbl_even hab no (j - i) (i - 1) (by omega) (by
      rw [show i - 1 + 1 = i by omega, show i - 1 + 2 = i + 1 by omega]; exact i4) (by
      rw [show i - 1 + 1 + (j - i) = j by omega, show i - 1 + 2 + (j - i) = j + 1 by omega]; exact j4)
    omega
  · have := dbl_even hab no (i - j) (j - 1) (by omega) (by
      rw [show j - 1 + 1 = j by omega, show j - 1 + 2 = j + 1 by omega]; exact j4) (by
      rw [show j - 1 + 1 + (i - j) = i by omega, show j - 1 + 2 + (i - j) = i + 1 by omega]; exact i4)
    omega
theorem not_both {g : Nat → Nat} {n : Nat} (h7 : 7 ≤ n) (hab : Bin g n) (no : NoOv g n) (h0 : Good g n 0) (h1 : Good g n 1) : False := by
  have a1 : g 1 ≠ g 2 := h1 1 rfl (by omega) (by omega)
  have a2 : g 2 ≠ g 3 := h0 2 rfl (by omega) (by omega)
  have a3 : g 3 ≠ g 4 := h1 3 rfl (by omega) (by omega)
  have a4 : g 4 ≠ g 5 := h0 4 rfl (by omega) (by omega)
  have b1 := hab 1 (by omega)
  have b2 := hab 2 (by omega)
  have b3 := hab 3 (by omega)
  have b4 := hab 4 (by omega)
  have b5 := hab 5 (by omega)
  exact no.two (i := 1) (by omega) (show g 1 = g 3 by omega) (show g 2 = g 4 by omega) (show g 3 = g 5 by omega)
abbrev at' (s : List Nat) (i : Nat) : Nat := s.getD i 0
theorem at_eq {s : List Nat} {i : Nat} (h : i < s.length) : at' s i = s[i] := by simp [at', h]
theorem ovl_none {s : List Nat} (h : ovl s = none) : NoOv (at' s) s.length := by
  intro st p h1 h2 hk
  unfold ovl at h
  rw [List.findSome?_eq_none_iff] at h
  have h3 := h (st + 2 * p + 1) (by simp; omega)
  unfold ovEnd at h3
  rw [Option.map_eq_none_iff, List.find?_eq_none] at h3
  have h4 := h3 p (by simp; omega)
  apply h4
  unfold ovAt
  rw [decide_eq_true_iff]
  rw [show st + 2 * p + 1 - 2 * p - 1 = st by omega, show st + 2 * p + 1 - p - 1 = st + p by omega]
  refine List.ext_getElem (by simp; omega) fun k g1 g2 => ?_
  simp at g1 g2
  have := hk k (by omega)
  rw [at_eq (by omega), at_eq (by omega)] at this
  simpa using this
theorem pre_iff {x s : List Nat} : x.isPrefixOf s = true ↔ x.length ≤ s.length ∧ ∀ j, j < x.length → at' x j = at' s j := by
  rw [List.isPrefixOf_iff_prefix, List.prefix_iff_eq_take]
  constructor
  · intro h
    have hl : x.length ≤ s.length := by
      have := congrArg List.length h
      simp at this; omega
    refine ⟨hl, fun j hj => ?_⟩
    rw [at_eq hj, at_eq (by omega)]
    have : x[j]? = (s.take x.length)[j]? := by rw [← h]
    rw [List.getElem?_take_of_lt hj, List.getElem?_eq_getElem hj, List.getElem?_eq_getElem (by omega)] at this
    exact Option.some.inj this
  · rintro ⟨hl, h⟩
    refine List.ext_getElem (by simp; omega) fun k g1 g2 => ?_
    have := h k g1
    rw [at_eq g1, at_eq (by omega)] at this
    simpa using this
theorem suf_iff {z s : List Nat} : z.isSuffixOf s = true ↔ z.length ≤ s.length ∧ ∀ j, j < z.length → at' z j = at' s (s.length - z.length + j) := by
  rw [List.isSuffixOf_iff_suffix, List.suffix_iff_eq_drop]
  constructor
  · intro h
    have hl : z.length ≤ s.length := by
      have := congrArg List.length h
      simp at this; omega
    refine ⟨hl, fun j hj => ?_⟩
    rw [at_eq hj, at_eq (by omega)]
    have : z[j]? = (s.drop (s.length - z.length))[j]? := by rw [← h]
    rw [List.getElem?_drop, List.getElem?_eq_getElem hj, List.getElem?_eq_getElem (by omega)] at this
    exact Option.some.inj this
  · rintro ⟨hl, h⟩
    refine List.ext_getElem (by simp; omega) fun k g1 g2 => ?_
    have := h k g1
    rw [at_eq g1, at_eq (by omega)] at this
    simpa using this
theorem halve_iff : ∀ {l : List Nat}, (∀ c ∈ l, c = 97 ∨ c = 98) → ((halve l).isSome = true ↔ l.length % 2 = 0 ∧ ∀ k, 2 * k + 1 < l.length → at' l (2 * k) ≠ at' l (2 * k + 1))
  | [], _ => by simp [halve]
  | [a], _ => by simp [halve]
  | a :: b :: t, h => by
    have ih := halve_iff (l := t) fun c hc => h c (by simp [hc])
    have ha := h a (by simp)
    have hb := h b (by simp)
    unfold halve
    constructor
    · intro hs
      split at hs
      · rename_i hab
        rw [Option.isSome_map] at hs
        obtain ⟨g1, g2⟩ := ih.mp hs
        refine ⟨by simp; omega, fun k hk => ?_⟩
        cases k with
        | zero => simp [at']; omega
        | succ k =>
          have := g2 k (by simp at hk; omega)
          rw [show 2 * (k + 1) = 2 * k + 1 + 1 by omega]
          simpa [at'] using this
      · cases hs
    · rintro ⟨g1, g2⟩
      have h0 := g2 0 (by simp)
      simp [at'] at h0
      rw [if_pos (by omega), Option.isSome_map]
      refine ih.mpr ⟨by simp at g1; omega, fun k hk => ?_⟩
      have := g2 (k + 1) (by simp; omega)
      rw [show 2 * (k + 1) = 2 * k + 1 + 1 by omega] at this
      simpa [at'] using this
theorem inner_at {s x z : List Nat} {i : Nat} (h : i + x.length + z.length < s.length) : at' (inner s x z) i = at' s (x.length + i) := by
  have hl : i < (inner s x z).length := by unfold inner; simp; omega
  rw [at_eq hl, at_eq (by omega)]
  simp [inner]
theorem inner_len {s x z : List Nat} (h : x.length + z.length ≤ s.length) : (inner s x z).length = s.length - x.length - z.length := by
  unfold inner; simp; omega
theorem inner_mem {s x z : List Nat} {c : Nat} (h : c ∈ inner s x z) : c ∈ s := List.mem_of_mem_drop (List.mem_of_mem_take h)
end K54
namespace K54
open PySem PySem.Spec PyProof.Rows L2 TL M
theorem bin_at {s : List Nat} (hab : ∀ c ∈ s, c = 97 ∨ c = 98) : Bin (at' s) s.length := fun i hi => by
  rw [at_eq hi]; exact hab _ (List.getElem_mem hi)
def xOf (s : List Nat) (q : Nat) : List Nat := if q = 1 then [at' s 0] else if at' s 0 = at' s 1 then [at' s 0, at' s 0] else []
def zOf (s : List Nat) (q : Nat) : List Nat := if (s.length - q) % 2 = 1 then [at' s (s.length - 1)] else if at' s (s.length - 2) = at' s (s.length - 1) then [at' s (s.length - 1), at' s (s.length - 1)] else []
theorem ends_cases {x : List Nat} (h : x ∈ ends5) : x = [] ∨ ∃ a, x = [a] ∨ x = [a, a] := by
  simp [ends5] at h
  rcases h with rfl | rfl | rfl | rfl | rfl
  · exact .inl rfl
  · exact .inr ⟨_, .inl rfl⟩
  · exact .inr ⟨_, .inl rfl⟩
  · exact .inr ⟨_, .inr rfl⟩
  · exact .inr ⟨_, .inr rfl⟩
theorem peelX_some {s x z : List Nat} {r : List Nat × List Nat × List Nat} (h : peelX s x z = some r) : x.isPrefixOf s = true ∧ z.isSuffixOf s = true ∧ (halve (inner s x z)).isSome = true := by
  unfold peelX peelAt at h
  split at h
  · rename_i hc
    obtain ⟨y, hy, _⟩ := Option.map_eq_some_iff.mp h
    exact ⟨hc.1, hc.2, by rw [hy]; rfl⟩
  · cases h
theorem peel_unique {s x z : List Nat} {r : List Nat × List Nat × List Nat} (h7 : 7 ≤ s.length) (hab : ∀ c ∈ s, c = 97 ∨ c = 98) (hx : x ∈ ends5) (hz : z ∈ ends5) (h : peelX s x z = some r) :
    Good (at' s) s.length (x.length % 2) ∧ x = xOf s (x.length % 2) ∧ z = zOf s (x.length % 2) := by
  obtain ⟨h1, h2, h3⟩ := peelX_some h
  have hxl := ends_len hx
  have hzl := ends_len hz
  obtain ⟨_, p1⟩ := pre_iff.mp h1
  obtain ⟨_, p2⟩ := suf_iff.mp h2
  obtain ⟨e1, e2⟩ := (halve_iff fun c hc => hab c (inner_mem hc)).mp h3
  rw [inner_len (by omega)] at e1 e2
  have e3 : ∀ k, 2 * k + 1 < s.length - x.length - z.length → at' s (x.length + 2 * k) ≠ at' s (x.length + 2 * k + 1) := fun k hk => by
    have := e2 k hk
    rw [inner_at (by omega), inner_at (by omega)] at this
    exact this
  refine ⟨fun i i1 i2 i3 => ?_, ?_, ?_⟩
  · have := e3 ((i - x.length) / 2) (by omega)
    rw [show x.length + 2 * ((i - x.length) / 2) = i by omega] at this
    exact this
  · rcases ends_cases hx with rfl | ⟨a, rfl | rfl⟩
    · have := e3 0 (by simp; omega)
      simp [xOf]
      exact this
    · have := p1 0 (by simp)
      simp [at'] at this
      simp [xOf, at', this]
    · have q0 := p1 0 (by simp)
      have q1 := p1 1 (by simp)
      simp [at'] at q0 q1
      simp [xOf, at', ← q0, ← q1]
  · rcases ends_cases hz with rfl | ⟨a, rfl | rfl⟩
    · have := e3 ((s.length - x.length - 2) / 2) (by simp; omega)
      simp at e1
      rw [show x.length + 2 * ((s.length - x.length - 2) / 2) = s.length - 2 by omega, show s.length - 2 + 1 = s.length - 1 by omega] at this
      unfold zOf
      rw [if_neg (by omega), if_neg this]
    · have q0 := p2 0 (by simp)
      simp at e1 q0
      unfold zOf
      rw [if_pos (by omega)]
      simp [at']
      exact q0
    · have q0 := p2 0 (by simp)
      have q1 := p2 1 (by simp)
      simp at e1 q0 q1
      unfold zOf
      have q1' : a = at' s (s.length - 1) := by
        rw [show s.length - 2 + 1 = s.length - 1 by omega] at q1
        simpa [at'] using q1
      have q0' : a = at' s (s.length - 2) := by simpa [at'] using q0
      rw [if_neg (by omega), if_pos (q0'.symm.trans q1'), ← q1']
theorem mem_ends1 {a : Nat} (h : a = 97 ∨ a = 98) : [a] ∈ ends5 ∧ [a, a] ∈ ends5 := by
  rcases h with rfl | rfl <;> decide
theorem peel_there {s : List Nat} {q : Nat} (h7 : 7 ≤ s.length) (hab : ∀ c ∈ s, c = 97 ∨ c = 98) (hq : q < 2) (hg : Good (at' s) s.length q) : xOf s q ∈ ends5 ∧ zOf s q ∈ ends5 ∧ (xOf s q).length % 2 = q ∧ ∃ y, peelX s (xOf s q) (zOf s q) = some (xOf s q, y, zOf s q) := by
  have hb := bin_at hab
  have b0 := hb 0 (by omega)
  have bn := hb (s.length - 1) (by omega)
  have x1 : xOf s q ∈ ends5 ∧ (xOf s q).length % 2 = q ∧ (∀ j, j < (xOf s q).length → at' (xOf s q) j = at' s j) ∧ ((xOf s q).length = 0 → at' s 0 ≠ at' s 1) ∧ (xOf s q).length ≤ 2 := by
    unfold xOf
    split
    · rename_i h
      refine ⟨(mem_ends1 b0).1, by simp [h], fun j hj => ?_, fun h => by simp at h, by simp⟩
      have : j = 0 := by simp at hj; omega
      subst this; simp [at']
    · rename_i h
      split
      · rename_i e
        refine ⟨(mem_ends1 b0).2, by simp; omega, fun j hj => ?_, fun h => by simp at h, by simp⟩
        rcases (by simp at hj; omega : j = 0 ∨ j = 1) with rfl | rfl
        · simp [at']
        · simpa [at'] using e
      · rename_i e
        exact ⟨by decide, by simp; omega, fun j hj => by simp at hj, fun _ => e, by simp⟩
  have z1 : zOf s q ∈ ends5 ∧ (s.length - q - (zOf s q).length) % 2 = 0 ∧ (∀ j, j < (zOf s q).length → at' (zOf s q) j = at' s (s.length - (zOf s q).length + j)) ∧ ((zOf s q).length = 0 → at' s (s.length - 2) ≠ at' s (s.length - 1)) ∧ (zOf s q).length ≤ 2 := by
    unfold zOf
    split
    · rename_i h
      refine ⟨(mem_ends1 bn).1, by simp; omega, fun j hj => ?_, fun h => by simp at h, by simp⟩
      have : j = 0 := by simp at hj; omega
      subst this; simp [at']
    · rename_i h
      split
      · rename_i e
        refine ⟨(mem_ends1 bn).2, by simp; omega, fun j hj => ?_, fun h => by simp at h, by simp⟩
        rcases (by simp at hj; omega : j = 0 ∨ j = 1) with rfl | rfl
        · simpa [at'] using e.symm
        · simp only [List.length_cons, List.length_nil]
          rw [show s.length - (0 + 1 + 1) + 1 = s.length - 1 by omega]
          simp [at']
      · rename_i e
        exact ⟨by decide, by simp; omega, fun j hj => by simp at hj, fun _ => e, by simp⟩
  obtain ⟨x1, x2, x3, x4, x5⟩ := x1
  obtain ⟨z1, z2, z3, z4, z5⟩ := z1
  generalize xOf s q = x at *
  generalize zOf s q = z at *
  refine ⟨x1, z1, x2, ?_⟩
  have hp : x.isPrefixOf s = true := pre_iff.mpr ⟨by omega, x3⟩
  have hs : z.isSuffixOf s = true := suf_iff.mpr ⟨by omega, z3⟩
  have hh : (halve (inner s x z)).isSome = true := by
    refine (halve_iff fun c hc => hab c (inner_mem hc)).mpr ?_
    rw [inner_len (by omega)]
    refine ⟨by omega, fun k hk => ?_⟩
    rw [inner_at (by omega), inner_at (by omega)]
    by_cases h0 : x.length + 2 * k = 0
    · have h1 : x.length = 0 := by omega
      have h2 : k = 0 := by omega
      subst h2
      rw [h1]
      exact x4 h1
    · by_cases hn : x.length + 2 * k + 2 = s.length
      · have h1 : z.length = 0 := by omega
        rw [show x.length + 2 * k = s.length - 2 by omega, show x.length + (2 * k + 1) = s.length - 1 by omega]
        exact z4 h1
      · have := hg (x.length + 2 * k) (by omega) (by omega) (by omega)
        exact this
  obtain ⟨y, hy⟩ := Option.isSome_iff_exists.mp hh
  refine ⟨y, ?_⟩
  unfold peelX peelAt
  rw [if_pos ⟨hp, hs⟩, hy]
  rfl
theorem one_way {s : List Nat} (h7 : 7 ≤ s.length) (hab : ∀ c ∈ s, c = 97 ∨ c = 98) (ho : ovl s = none) : ∃ x0 y0 z0, x0 ∈ ends5 ∧ z0 ∈ ends5 ∧ peelX s x0 z0 = some (x0, y0, z0) ∧ ∀ x ∈ ends5, ∀ z ∈ ends5, ∀ r, peelX s x z = some r → x = x0 ∧ z = z0 := by
  have no := ovl_none ho
  have hb := bin_at hab
  have key : ∀ q, q < 2 → Good (at' s) s.length q → ∃ x0 y0 z0, x0 ∈ ends5 ∧ z0 ∈ ends5 ∧ peelX s x0 z0 = some (x0, y0, z0) ∧ ∀ x ∈ ends5, ∀ z ∈ ends5, ∀ r, peelX s x z = some r → x = x0 ∧ z = z0 := fun q hq hg => by
    obtain ⟨a1, a2, a3, y, a4⟩ := peel_there h7 hab hq hg
    refine ⟨_, y, _, a1, a2, a4, fun x hx z hz r hr => ?_⟩
    obtain ⟨b1, b2, b3⟩ := peel_unique h7 hab hx hz hr
    have e : x.length % 2 = q := by
      have h1 : x.length % 2 < 2 := Nat.mod_lt _ (by omega)
      refine Classical.byContradiction fun ne => ?_
      rcases (by omega : q = 0 ∨ q = 1) with rfl | rfl
      · rw [show x.length % 2 = 1 by omega] at b1
        exact not_both h7 hb no hg b1
      · rw [show x.length % 2 = 0 by omega] at b1
        exact not_both h7 hb no b1 hg
    rw [e] at b2 b3
    exact ⟨b2, b3⟩
  rcases some_good hb no with h | h
  · exact key 0 (by omega) h
  · exact key 1 (by omega) h
def waysOf (s : List Nat) : List (List Nat × List Nat × List Nat) := ends5.flatMap fun x => ends5.filterMap fun z => peelX s x z
theorem ways_one {s : List Nat} (h7 : 7 ≤ s.length) (hab : ∀ c ∈ s, c = 97 ∨ c = 98) (ho : ovl s = none) : ∃ t, waysOf s = [t] ∧ peel s = some t := by
  obtain ⟨x0, y0, z0, hx, hz, h1, h2⟩ := one_way h7 hab ho
  refine ⟨(x0, y0, z0), ?_⟩
  have e : ∀ x ∈ ends5, ∀ z ∈ ends5, peelX s x z = if x = x0 ∧ z = z0 then some (x0, y0, z0) else none := fun x hx z hz => by
    by_cases h : x = x0 ∧ z = z0
    · rw [if_pos h, h.1, h.2, h1]
    · rw [if_neg h]
      cases e : peelX s x z with
      | none => rfl
      | some r => exact absurd (h2 x hx z hz r e) h
  have m : ∀ x ∈ ends5, ends5.filterMap (fun z => peelX s x z) = ends5.filterMap (fun z => if x = x0 ∧ z = z0 then some (x0, y0, z0) else none) := fun x hx => by
    have : ∀ l : List (List Nat), (∀ z ∈ l, z ∈ ends5) → l.filterMap (fun z => peelX s x z) = l.filterMap (fun z => if x = x0 ∧ z = z0 then some (x0, y0, z0) else none) := fun l hl => by
      induction l with
      | nil => rfl
      | cons a l ih =>
        rw [List.filterMap_cons, List.filterMap_cons, e x hx a (hl a (by simp)), ih fun z hz => hl z (by simp [hz])]
    exact this _ fun _ h => h
  have m2 : ∀ x ∈ ends5, ends5.findSome? (fun z => peelX s x z) = ends5.findSome? (fun z => if x = x0 ∧ z = z0 then some (x0, y0, z0) else none) := fun x hx => by
    have : ∀ l : List (List Nat), (∀ z ∈ l, z ∈ ends5) → l.findSome? (fun z => peelX s x z) = l.findSome? (fun z => if x = x0 ∧ z = z0 then some (x0, y0, z0) else none) := fun l hl => by
      induction l with
      | nil => rfl
      | cons a l ih =>
        rw [List.findSome?_cons, List.findSome?_cons, e x hx a (hl a (by simp)), ih fun z hz => hl z (by simp [hz])]
    exact this _ fun _ h => h
  have w1 : waysOf s = ends5.flatMap fun x => ends5.filterMap (fun z => if x = x0 ∧ z = z0 then some (x0, y0, z0) else none) := by
    unfold waysOf
    rw [List.flatMap_def, List.flatMap_def, List.map_congr_left m]
  have w2 : peel s = ends5.findSome? fun x => ends5.findSome? (fun z => if x = x0 ∧ z = z0 then some (x0, y0, z0) else none) := by
    show ends5.findSome? (fun x => ends5.findSome? fun z => peelX s x z) = _
    have : ∀ l : List (List Nat), (∀ z ∈ l, z ∈ ends5) → l.findSome? (fun x => ends5.findSome? fun z => peelX s x z) = l.findSome? fun x => ends5.findSome? (fun z => if x = x0 ∧ z = z0 then some (x0, y0, z0) else none) := fun l hl => by
      induction l with
      | nil => rfl
      | cons a l ih =>
        rw [List.findSome?_cons, List.findSome?_cons, m2 a (hl a (by simp)), ih fun z hz => hl z (by simp [hz])]
    exact this _ fun _ h => h
  rw [w1, w2]
  clear m m2 w1 w2 e h1 h2
  simp [ends5] at hx hz
  rcases hx with rfl | rfl | rfl | rfl | rfl <;> rcases hz with rfl | rfl | rfl | rfl | rfl <;> simp [ends5]
end K54
namespace K54
open PySem PySem.Spec PyProof.Rows L2 TL M
theorem shr_nat (n i : Nat) : (n : Int) / 2 ^ i = ((n / 2 ^ i : Nat) : Int) := by
  rw [Int.natCast_ediv, Int.natCast_pow]; rfl
def bitSum (n : Nat) : Nat → Nat
  | 0 => 0
  | i + 1 => bitSum n i + n / 2 ^ i % 2
theorem bitSum_ones (n : Nat) : ∀ i, bitSum n i + ones (n / 2 ^ i) = ones n
  | 0 => by simp [bitSum]
  | i + 1 => by
    have h := bitSum_ones n i
    have e : n / 2 ^ i / 2 = n / 2 ^ (i + 1) := by rw [Nat.div_div_eq_div_mul, Nat.pow_succ]
    rw [ones_eq (n / 2 ^ i), e] at h
    unfold bitSum
    omega
theorem odd_ok {n : Nat} (hn : n < 2 ^ 104) {Q : RV → List SV → Prop} (h : Q (.d (.bl (decide (ones n % 2 = 1)))) [.d (.int n)]) : wF F__law_odd [.d (.int n)] Q := by
  unfold F__law_odd
  rw [wF_run]
  unfold B__law_odd
  simp
  refine wR_inv (fun i ρ => ∃ o, ρ = [some (.d (.int n)), some (.d (.int (bitSum n i))), o]) (k := 0) ⟨_, rfl⟩ (fun i x ρ hx hP => ?_) fun ρ hP => ?_
  · obtain ⟨o, rfl⟩ := hP
    obtain ⟨hi, rfl⟩ := range_at hx
    simp
    rw [shr_nat, show bitSum n (0 + i + 1) = bitSum n i + n / 2 ^ i % 2 by simp [bitSum]]
    generalize n / 2 ^ i = q
    simp
  · obtain ⟨o, rfl⟩ := hP
    simp
    have e := bitSum_ones n 104
    rw [Nat.div_eq_of_lt hn, ones_0, Nat.add_zero] at e
    rw [e]
    have e2 : decide (((ones n % 2 : Nat) : Int) = 1) = decide (ones n % 2 = 1) := by
      by_cases h : ones n % 2 = 1 <;> simp [h]
      omega
    first
      | (rw [e2]; exact h)
      | (have e3 : (decide ((ones n : Int) % 2 = 1)) = decide (ones n % 2 = 1) := by
           by_cases h : ones n % 2 = 1
           · rw [decide_eq_true h, decide_eq_true (by omega)]
           · rw [decide_eq_false h, decide_eq_false (by omega)]
         rw [e3]; exact h)
theorem part_ok {i n : Nat} (hi : i + n < 2 ^ 104) (hn : n ≤ 1000) {Q : RV → List SV → Prop} (h : Q (.d (.str (tPart i n))) [.d (.int i), .d (.int n)]) : wF F__law_part [.d (.int i), .d (.int n)] Q := by
  unfold F__law_part
  rw [wF_run]
  unfold B__law_part
  simp
  refine ⟨by omega, wC_map (fun _ => true) (fun x => match x with | .int j => .str [tLet (i + j.toNat)] | _ => .non) (by simp; omega) (fun x hx => ?_) ?_⟩
  · obtain ⟨k, hk, rfl⟩ := mem_range_map hx
    have e : (i : Int) + (k : Int) = ((i + k : Nat) : Int) := by omega
    simp only [wE_Op, wT_Yes]
    simp
    rw [e]
    refine odd_ok (by omega) ?_
    simp
    rcases tLet_of (i + k) with h | h
    · have : ¬ ones (i + k) % 2 = 1 := by unfold tLet at h; omega
      simp [this, h]
    · have : ones (i + k) % 2 = 1 := by unfold tLet at h; omega
      simp [this, h]
  · rw [filter_true, List.map_map]
    have e : (fun x => match x with | .int j => .str [tLet (i + j.toNat)] | _ => .non) ∘ (fun (k : Nat) => D.int (k : Int)) = (fun c => D.str [c]) ∘ fun k => tLet (i + k) := by
      funext k
      simp
    rw [e, ← List.map_map]
    have e3 : (List.range n).map (fun k => tLet (i + k)) = tPart i n := rfl
    rw [e3]
    simp
    rw [join_signs (by unfold tPart; simp; omega)]
    simp
    exact h
theorem counts_ok {n : Nat} (hn : n < 2 ^ 104) {Q : RV → List SV → Prop} (h : Q (.d (.tup [.int (tCnt n).1, .int (tCnt n).2])) [.d (.int n)]) : wF F__law_counts [.d (.int n)] Q := by
  unfold F__law_counts
  rw [wF_run]
  unfold B__law_counts
  unfold tCnt at h
  by_cases hodd : n % 2 = 1
  · simp [hodd]
    have e1 : (n : Int) - 1 = ((n - 1 : Nat) : Int) := by omega
    rw [e1]
    refine odd_ok (by omega) ?_
    simp
    rcases tLet_of (n - 1) with e | e
    · have : ¬ ones (n - 1) % 2 = 1 := by unfold tLet at e; omega
      simp [this]
      simp [hodd, e] at h
      have : (n : Int) - (n : Int) / 2 = (n : Int) / 2 + 1 := by omega
      rw [this]
      exact h
    · have : ones (n - 1) % 2 = 1 := by unfold tLet at e; omega
      simp [this]
      simp [hodd, e] at h
      have : (n : Int) - (n : Int) / 2 - 1 = (n : Int) / 2 := by omega
      rw [this]
      exact h
  · have h0 : n % 2 = 0 := by omega
    simp [h0]
    simp [h0] at h
    have : (n : Int) - (n : Int) / 2 = (n : Int) / 2 := by omega
    rw [this]
    exact h
theorem asked_ok {w : List Nat} {x y : D} {b : Bool} (hx : (tyD x).isSome = true) (hy : (tyD y).isSome = true) {Q : RV → List SV → Prop} (h : Q (.own (asked w x y)) [.d (.str w), .d x, .d y, .d (.bl b)]) : wF F__law_asked [.d (.str w), .d x, .d y, .d (.bl b)] Q :=
  wF_eq (by unfold F__law_asked; simp [hx, hy]) h
theorem peeledA_ok {x : D} {b : Bool} (hx : (tyD x).isSome = true) (hx2 : okL x = true) {Q : RV → List SV → Prop} (h : Q (.own (peeledL x)) [.d x, .d (.bl b)]) : wF F__law_peeled [.d x, .d (.bl b)] Q :=
  wF_eq (by unfold F__law_peeled; simp [hx, hx2]) h
end K54
namespace K54
open PySem PySem.Spec PyProof.Rows L2 TL M
def stL (s : List Nat) (e m : Nat) : List Int := ((List.range' 1 m).filter (ovAt s e)).map fun (p : Nat) => (e : Int) - 2 * (p : Int) - 1
theorem stL_succ (s : List Nat) (e m : Nat) : stL s e (m + 1) = stL s e m ++ (if ovAt s e (m + 1) = true then [(e : Int) - 2 * ((m + 1 : Nat) : Int) - 1] else []) := by
  unfold stL
  rw [List.range'_concat, List.filter_append, List.map_append]
  congr 1
  rw [show 1 + 1 * m = m + 1 by omega]
  by_cases h : ovAt s e (m + 1) = true
  · simp [h]
  · simp [h]
theorem find_rev_spec {p : Nat → Bool} : ∀ {m : Nat}, match (List.range' 1 m).reverse.find? p with
    | none => ∀ q, 1 ≤ q → q ≤ m → p q = false
    | some k => 1 ≤ k ∧ k ≤ m ∧ p k = true ∧ ∀ q, k < q → q ≤ m → p q = false
  | 0 => by simp; omega
  | m + 1 => by
    have ih := find_rev_spec (p := p) (m := m)
    rw [rev_succ, List.find?_cons]
    cases h : p (m + 1) with
    | true => simp [h]; omega
    | false =>
      simp only
      cases e : (List.range' 1 m).reverse.find? p with
      | none =>
        rw [e] at ih
        intro q q1 q2
        by_cases hq : q = m + 1
        · subst hq; exact h
        · exact ih q q1 (by omega)
      | some k =>
        rw [e] at ih
        obtain ⟨i1, i2, i3, i4⟩ := ih
        refine ⟨i1, by omega, i3, fun q q1 q2 => ?_⟩
        by_cases hq : q = m + 1
        · subst hq; exact h
        · exact i4 q q1 (by omega)
theorem stL_min {s : List Nat} {e : Nat} : match ovEnd s e with
    | none => stL s e ((e - 1) / 2) = []
    | some (_, st) => ∃ n ns, stL s e ((e - 1) / 2) = n :: ns ∧ minL n ns = st := by
  have h := find_rev_spec (p := ovAt s e) (m := (e - 1) / 2)
  unfold ovEnd
  cases hf : (List.range' 1 ((e - 1) / 2)).reverse.find? (ovAt s e) with
  | none =>
    rw [hf] at h
    simp only [Option.map_none]
    unfold stL
    rw [List.map_eq_nil_iff, List.filter_eq_nil_iff]
    intro q hq
    simp at hq
    simp [h q (by omega) (by omega)]
  | some k =>
    rw [hf] at h
    obtain ⟨k1, k2, k3, k4⟩ := h
    simp only [Option.map_some]
    have mem : (e : Int) - 2 * (k : Int) - 1 ∈ stL s e ((e - 1) / 2) := by
      unfold stL
      rw [List.mem_map]
      exact ⟨k, by rw [List.mem_filter]; exact ⟨by simp; omega, k3⟩, rfl⟩
    have low : ∀ y ∈ stL s e ((e - 1) / 2), (e : Int) - 2 * (k : Int) - 1 ≤ y := fun y hy => by
      unfold stL at hy
      rw [List.mem_map] at hy
      obtain ⟨p, hp, rfl⟩ := hy
      rw [List.mem_filter] at hp
      have : p ≤ k := Nat.le_of_not_lt fun z => by
        have := k4 p z (by have := hp.1; simp at this; omega)
        rw [this] at hp
        cases hp.2
      omega
    cases hl : stL s e ((e - 1) / 2) with
    | nil => rw [hl] at mem; cases mem
    | cons n ns =>
      refine ⟨n, ns, rfl, ?_⟩
      rw [hl] at mem low
      obtain ⟨a1, a2, a3⟩ := minL_spec ns n
      have b1 : minL n ns ≤ (e : Int) - 2 * (k : Int) - 1 := by
        rcases List.mem_cons.mp mem with h | h
        · rw [h]; exact a2
        · exact a3 _ h
      have b2 : (e : Int) - 2 * (k : Int) - 1 ≤ minL n ns := by
        rcases a1 with h | h
        · rw [h]; exact low n (by simp)
        · exact low _ (by simp [h])
      omega
theorem stL_len (s : List Nat) (e m : Nat) : (stL s e m).length ≤ m := by
  unfold stL
  rw [List.length_map]
  have := List.length_filter_le (ovAt s e) (List.range' 1 m)
  simp at this
  exact this
theorem overlapL_ok {s : List Nat} (hs : s.length ≤ 1000) {Q : RV → List SV → Prop} (h : Q (.d (ovD s)) [.d (.str s)]) : wF F__law_overlap [.d (.str s)] Q := by
  unfold F__law_overlap
  rw [wF_run]
  unfold B__law_overlap
  simp
  refine ⟨by omega, by omega, wR_inv (fun i ρ => (∀ j, j < i → ovEnd s (3 + j) = none) ∧ ∃ o1 o2 o3 o4, ρ = [some (.d (.str s)), o1, o2, o3, o4]) (k := 0) ⟨fun j hj => by omega, _, _, _, _, rfl⟩ (fun i x ρ hx hP => ?_) fun ρ hP => ?_⟩
  · obtain ⟨h0, o1, o2, o3, o4, rfl⟩ := hP
    obtain ⟨hi, rfl⟩ := range_at hx
    simp at h0
    simp
    generalize he : 3 + i = e
    have ee : (3 : Int) + (i : Int) = (e : Int) := by omega
    simp only [ee]
    have em : (((e : Int) - 1) / 2).toNat = (e - 1) / 2 := by omega
    refine ⟨by omega, wR_inv (fun t ρ => ∃ o3 o4, ρ = [some (.d (.str s)), some (.d (.int e)), some (.own false ((stL s e t).map .int)), o3, o4]) (k := 0) ⟨_, _, rfl⟩ (fun t x ρ hx hP => ?_) fun ρ hP => ?_⟩
    · obtain ⟨o3, o4, rfl⟩ := hP
      obtain ⟨ht, rfl⟩ := range_at hx
      simp
      generalize hp : 1 + t = p at *
      have ep : (1 : Int) + (t : Int) = (p : Int) := by omega
      simp only [ep]
      have hp1 : 2 * p + 1 ≤ e := by omega
      rw [cut_ov hp1, cut_ov2 hp1]
      have hst := stL_len s e t
      refine ⟨by omega, ?_⟩
      have es := stL_succ s e t
      rw [show t + 1 = p by omega] at es
      split
      · rename_i heq
        have e1 : ovAt s e p = true := by simp [ovAt, heq]
        rw [if_pos e1] at es
        refine ⟨by omega, ?_⟩
        rw [show t + 1 = p by omega, es]
        simp
      · rename_i heq
        have e1 : ¬ ovAt s e p = true := by simp [ovAt, heq]
        rw [if_neg e1, List.append_nil] at es
        rw [show t + 1 = p by omega, es]
    · obtain ⟨o3, o4, rfl⟩ := hP
      rw [List.length_map, List.length_range]
      simp only [Nat.zero_add]
      rw [em]
      have hm := stL_min (s := s) (e := e)
      cases ho : ovEnd s e with
      | none =>
        rw [ho] at hm
        simp only at hm
        rw [hm]
        simp
        intro j hj
        by_cases hj2 : j = i
        · subst hj2
          rw [he]; exact ho
        · exact h0 j (by omega)
      | some r =>
        obtain ⟨r1, st⟩ := r
        rw [ho] at hm
        obtain ⟨n, ns, h1, h2⟩ := hm
        have er : r1 = e := by
          unfold ovEnd at ho
          obtain ⟨k, _, hk⟩ := Option.map_eq_some_iff.mp ho
          cases hk; rfl
        subst er
        have e2 : ovl s = some (r1, st) := findSome_hit (i := i) (by omega) (fun j hj => h0 j hj) (by rw [he]; exact ho)
        rw [h1]
        simp
        have e3 : neD (.lst (.int n :: ns.map .int)) (.lst []) = some (.d (.bl true)) := neD_lst_nil (okD_ints (n :: ns))
        have e4 := minD_lst n ns
        rw [List.map_cons] at e4
        simp [e3, e4, h2]
        unfold ovD at h
        rw [e2] at h
        exact h
  · obtain ⟨h0, o1, o2, o3, o4, rfl⟩ := hP
    simp at h0 ⊢
    have e2 : ovl s = none := findSome_none fun j hj => h0 j (by omega)
    unfold ovD at h
    rw [e2] at h
    exact h
end K54
namespace K54
open PySem PySem.Spec PyProof.Rows L2 TL M
def AB (s : List Nat) : Prop := ∀ c ∈ s, c = 97 ∨ c = 98
theorem AB.app {s t : List Nat} (h : AB s) (k : AB t) : AB (s ++ t) := fun c hc => (List.mem_append.mp hc).elim (h c) (k c)
theorem glue_iff {s x z : List Nat} (hl : x.length + z.length ≤ s.length) : x ++ inner s x z ++ z = s ↔ x <+: s ∧ z <:+ s := by
  constructor
  · intro h
    exact ⟨⟨inner s x z ++ z, by rw [← List.append_assoc]; exact h⟩, ⟨x ++ inner s x z, h⟩⟩
  · rintro ⟨h1, h2⟩
    have e1 := List.prefix_iff_eq_take.mp h1
    have e2 := List.suffix_iff_eq_drop.mp h2
    have a1 : s = s.take x.length ++ s.drop x.length := (List.take_append_drop _ _).symm
    have a2 : s.drop x.length = (s.drop x.length).take (s.length - z.length - x.length) ++ (s.drop x.length).drop (s.length - z.length - x.length) := (List.take_append_drop _ _).symm
    rw [List.drop_drop, show x.length + (s.length - z.length - x.length) = s.length - z.length by omega, ← e2] at a2
    rw [a2, ← e1, ← List.append_assoc] at a1
    unfold inner
    exact a1.symm
def wayD (t : List Nat × List Nat × List Nat) : D := .tup [.str t.1, .str t.2.1, .str t.2.2]
theorem take_succ' {α : Type} {l : List α} {i : Nat} {x : α} (h : l[i]? = some x) : l.take (i + 1) = l.take i ++ [x] := by
  obtain ⟨hi, rfl⟩ := List.getElem?_eq_some_iff.mp h
  rw [List.take_succ_eq_append_getElem hi]
def accV (s u : List Nat) (t : Nat) : List (List Nat × List Nat × List Nat) := (ends5.take t).filterMap fun z => peelX s u z
def accW (s : List Nat) (i : Nat) : List (List Nat × List Nat × List Nat) := (ends5.take i).flatMap fun x => accV s x 5
theorem accV_succ {s u z : List Nat} {t : Nat} (hz : ends5[t]? = some z) : accV s u (t + 1) = accV s u t ++ (peelX s u z).toList := by
  unfold accV
  rw [take_succ' hz, List.filterMap_append]
  cases e : peelX s u z <;> simp [e]
theorem accW_succ {s u : List Nat} {i : Nat} (hu : ends5[i]? = some u) : accW s (i + 1) = accW s i ++ accV s u 5 := by
  unfold accW
  rw [take_succ' hu, List.flatMap_append]
  simp
theorem accV_len (s u : List Nat) (t : Nat) : (accV s u t).length ≤ 5 := by
  have := List.length_filterMap_le (fun z => peelX s u z) (ends5.take t)
  have e : (ends5.take t).length ≤ 5 := by
    have e5 : ends5.length = 5 := rfl
    rw [List.length_take]; omega
  unfold accV
  omega
theorem accW_len (s : List Nat) (i : Nat) : (accW s i).length ≤ 25 := by
  have h : ∀ l : List (List Nat), (l.flatMap fun x => accV s x 5).length ≤ 5 * l.length := fun l => by
    induction l with
    | nil => simp
    | cons a l ih =>
      rw [List.flatMap_cons, List.length_append]
      have := accV_len s a 5
      simp only [List.length_cons]
      omega
  have := h (ends5.take i)
  have e : (ends5.take i).length ≤ 5 := by
    have e5 : ends5.length = 5 := rfl
    rw [List.length_take]; omega
  unfold accW
  omega
theorem accW_all (s : List Nat) : accW s 5 = waysOf s := rfl
theorem accW_0 (s : List Nat) : accW s 0 = [] := rfl
theorem accV_0 (s u : List Nat) : accV s u 0 = [] := rfl
theorem pairs_strs {l : List Nat} (h : AB l) : ∀ u ∈ (pairsOf l).filter (fun p => !decide (p ∈ ab2)), ∀ c ∈ u, c < 1114112 := fun u hu c hc => by
  have hu := (List.mem_filter.mp hu).1
  unfold pairsOf at hu
  obtain ⟨k, _, rfl⟩ := List.mem_map.mp hu
  have := h c (List.mem_of_mem_drop (List.mem_of_mem_take hc))
  omega
theorem ways_ok {s : List Nat} (h7 : 7 ≤ s.length) (hl : s.length ≤ 1000) (hab : AB s) {Q : RV → List SV → Prop} (h : Q (.own ((waysOf s).map wayD)) [.d (.str s)]) : wF F__law_ways [.d (.str s)] Q := by
  unfold F__law_ways
  rw [wF_run]
  unfold B__law_ways
  simp
  refine wR_inv (fun i ρ => ∃ o2 o3 o4 o5, ρ = [some (.d (.str s)), some (.own false ((accW s i).map wayD)), o2, o3, o4, o5, none, none]) (k := 0) ⟨_, _, _, _, rfl⟩ (fun i y ρ hy hP => ?_) fun ρ hP => ?_
  · obtain ⟨o2, o3, o4, o5, rfl⟩ := hP
    have hy : (ends5.map D.str)[i]? = some y := hy
    obtain ⟨u, hu, rfl⟩ := map_at hy
    have hul := ends_len (List.mem_of_getElem? hu)
    have hW := accW_len s i
    have hW1 := accW_succ (s := s) hu
    simp only [Nat.zero_add, hW1]
    generalize accW s i = W at *
    simp
    refine wR_inv (fun t ρ => ∃ o3 o4 o5, ρ = [some (.d (.str s)), some (.own false ((W ++ accV s u t).map wayD)), some (.d (.str u)), o3, o4, o5, none, none]) (k := 0) ⟨_, _, _, by rw [accV_0, List.append_nil]⟩ (fun t y ρ hy hP => ?_) fun ρ hP => ?_
    · obtain ⟨o3, o4, o5, rfl⟩ := hP
      have hy : (ends5.map D.str)[t]? = some y := hy
      obtain ⟨z, hz, rfl⟩ := map_at hy
      have hzl := ends_len (List.mem_of_getElem? hz)
      have hV1 : W ++ accV s u (t + 1) = (W ++ accV s u t) ++ (peelX s u z).toList := by rw [accV_succ hz, List.append_assoc]
      have hlen : (W ++ accV s u t).length ≤ 30 := by
        rw [List.length_append]
        have := accV_len s u t
        omega
      simp only [Nat.zero_add, hV1]
      generalize W ++ accV s u t = V at *
      simp
      rw [cut_inner hul hzl h7]
      have hil := inner_len (s := s) (x := u) (z := z) (by omega)
      have hgl := glue_iff (s := s) (x := u) (z := z) (by omega)
      have e1 : ((u.length : Int) + (z.length : Int) ≤ (s.length : Int)) = True := eq_true (by omega)
      have pe : peelX s u z = if u <+: s ∧ z <:+ s then (halve (inner s u z)).map fun y => (u, y, z) else none := by
        unfold peelX peelAt
        by_cases c : u <+: s ∧ z <:+ s
        · rw [if_pos c, if_pos ⟨List.isPrefixOf_iff_prefix.mpr c.1, List.isSuffixOf_iff_suffix.mpr c.2⟩]
        · rw [if_neg c, if_neg fun q => c ⟨List.isPrefixOf_iff_prefix.mp q.1, List.isSuffixOf_iff_suffix.mp q.2⟩]; rfl
      have hin : AB (inner s u z) := fun c hc => hab c (inner_mem hc)
      rw [List.append_assoc] at hgl
      have hm : V.map wayD = W.map wayD ++ (accV s u (t + 1)).map wayD ↔ peelX s u z = none := by
        rw [← List.map_append, hV1, List.map_append]
        cases e : peelX s u z <;> simp
      repeat (refine ⟨by omega, ?_⟩)
      rw [if_pos (by omega)]
      repeat (refine ⟨by omega, ?_⟩)
      by_cases c : u ++ (inner s u z ++ z) = s
      rotate_left
      · rw [if_neg c, hm, pe, if_neg fun q => c (hgl.mpr q)]
      rw [if_pos c]
      rw [if_pos (hgl.mp c)] at pe
      generalize inner s u z = v at *
      repeat (refine ⟨by omega, ?_⟩)
      obtain ⟨p1, p2⟩ := pairs_halve v
      have hhalf := halve_iff hin
      by_cases hev : v.length % 2 = 0
      rotate_left
      · rw [if_neg (by omega), hm, pe]
        have : ¬ (halve v).isSome = true := fun q => hev (hhalf.mp q).1
        cases e : halve v with
        | none => rfl
        | some y => rw [e] at this; exact absurd rfl this
      rw [if_pos (by omega)]
      have hpl : (pairsOf v).length ≤ 100000 := by unfold pairsOf; simp; omega
      repeat (refine ⟨by omega, ?_⟩)
      refine wC_map (fun _ => true) (fun x => match x with | .int j => .str ((v.drop j.toNat).take 2) | _ => .non) (by simp [stepN_2]; omega) (fun x hx => ?_) ?_
      · obtain ⟨k, hk, rfl⟩ := List.mem_map.mp hx
        simp
        refine ⟨by omega, ?_⟩
        rw [cutL_both (by omega) (by omega)]
        congr 1
        omega
      · rw [filter_true, List.map_map, stepN_2]
        have e : (fun x => match x with | .int j => .str ((v.drop j.toNat).take 2) | _ => .non) ∘ (fun (k : Nat) => D.int ((k : Int) * 2)) = D.str ∘ fun k => (v.drop (2 * k)).take 2 := by
          funext k
          simp
          congr 2
          omega
        rw [e, ← List.map_map]
        have e3 : (List.range ((v.length + 1) / 2)).map (fun k => (v.drop (2 * k)).take 2) = pairsOf v := rfl
        rw [e3]
        simp
        refine wC_map (fun x => match x with | .str p => !decide (p ∈ ab2) | _ => false) id (by simp; omega) (fun x hx => ?_) ?_
        · obtain ⟨p, hp, rfl⟩ := List.mem_map.mp hx
          have e4 : ninD (.str p) (.tup [.str [97, 98], .str [98, 97]]) = some (.d (.bl (!decide (p ∈ ab2)))) := ninD_strs (ts := ab2)
          simp [e4]
        · rw [List.map_id, List.filter_map]
          have e5 : (fun x => match x with | D.str p => !decide (p ∈ ab2) | _ => false) ∘ D.str = fun p => !decide (p ∈ ab2) := by
            funext p; rfl
          rw [e5]
          have e6 := eqD_lst_nil (okD_lst_strs (pairs_strs hin))
          have e7 : (List.map D.str ((pairsOf v).filter fun p => !decide (p ∈ ab2))).isEmpty = (halve v).isSome := by
            rw [← p1, Bool.eq_iff_iff]
            simp
          rw [e7] at e6
          simp [e6]
          cases ey : halve v with
          | none =>
            simp
            rw [hm, pe, ey]; rfl
          | some y =>
            obtain ⟨g1, g2⟩ := p2 y ey
            simp
            refine wC_map (fun _ => true) (fun x => .str [match x with | .str p => hd0 p | _ => 0]) (by simp; omega) (fun x hx => ?_) ?_
            · obtain ⟨p, hp, rfl⟩ := List.mem_map.mp hx
              have := g2 p hp
              match p, this with
              | [a, b], _ => simp [hd0]
            · rw [filter_true, List.map_map]
              have e8 : (fun x => D.str [match x with | .str p => hd0 p | _ => 0]) ∘ D.str = (fun c => D.str [c]) ∘ fun p => hd0 p := by
                funext p; rfl
              rw [e8, ← List.map_map, g1]
              simp
              have hyl : y.length ≤ 100000 := by rw [← g1]; simp; omega
              rw [join_signs (by omega)]
              simp
              refine ⟨by omega, ?_⟩
              rw [← List.map_append, hV1, List.map_append, pe, ey]
              rfl
    · obtain ⟨o3, o4, o5, rfl⟩ := hP
      exact ⟨some (.d (.str u)), o3, o4, o5, by rw [Nat.zero_add, Nat.zero_add, hW1]; rfl⟩
  · obtain ⟨o2, o3, o4, o5, rfl⟩ := hP
    simp
    exact h
end K54
namespace K54
open PySem PySem.Spec PyProof.Rows L2 TL M
def mu (w : List Nat) : List Nat := w.flatMap fun c => if c = 97 then [97, 98] else [98, 97]
theorem mu_len (w : List Nat) : (mu w).length = 2 * w.length := by
  unfold mu
  induction w with
  | nil => rfl
  | cons a w ih =>
    rw [List.flatMap_cons, List.length_append, ih]
    split <;> simp <;> omega
theorem mu_ab (w : List Nat) : AB (mu w) := fun c hc => by
  unfold mu at hc
  obtain ⟨a, _, h⟩ := List.mem_flatMap.mp hc
  split at h <;> simp at h <;> omega
theorem six_a : sindexD [97, 98] [.str [97]] = some (.d (.int 0)) := by
  have : occ [97, 98] [97] = [0] := by decide +kernel
  show (match occ [97, 98] [97] with | i :: _ => some (RV.d (.int i)) | [] => none) = _
  rw [this]; rfl
theorem six_b : sindexD [97, 98] [.str [98]] = some (.d (.int 1)) := by
  have : occ [97, 98] [98] = [1] := by decide +kernel
  show (match occ [97, 98] [98] with | i :: _ => some (RV.d (.int i)) | [] => none) = _
  rw [this]; rfl
theorem mu_ok {w : List Nat} (hw : AB w) (hl : w.length ≤ 1000) {Q : RV → List SV → Prop} (h : Q (.d (.str (mu w))) [.d (.str w)]) : wF F__law_mu [.d (.str w)] Q := by
  unfold F__law_mu
  rw [wF_run]
  unfold B__law_mu
  simp
  refine wC_map (fun _ => true) (fun x => .str (match x with | .str [c] => if c = 97 then [97, 98] else [98, 97] | _ => [])) (by simp; omega) (fun x hx => ?_) ?_
  · obtain ⟨c, hc, rfl⟩ := List.mem_map.mp hx
    rcases hw c hc with rfl | rfl
    · simp [six_a]
    · simp [six_b]
  · rw [filter_true, List.map_map]
    have e : (fun x => D.str (match x with | .str [c] => if c = 97 then [97, 98] else [98, 97] | _ => [])) ∘ (fun c => D.str [c]) = D.str ∘ fun c => if c = 97 then [97, 98] else [98, 97] := by
      funext c; rfl
    rw [e, ← List.map_map]
    have hj := joinD_lst (w.map fun c => if c = 97 then [97, 98] else [98, 97]) (by
      have : ∀ l : List Nat, ((l.map fun c => if c = 97 then [97, 98] else [98, 97]).map (·.length)).sum = 2 * l.length := fun l => by
        induction l with
        | nil => rfl
        | cons a l ih =>
          simp only [List.map_cons, List.sum_cons, List.length_cons, ih]
          split <;> simp <;> omega
      rw [this]; omega)
    rw [← List.flatMap_def] at hj
    simp
    rw [List.map_map] at hj
    rw [hj]
    simp
    exact h
theorem tPart_ab (i n : Nat) : AB (tPart i n) := fun c hc => by
  unfold tPart at hc
  obtain ⟨k, _, rfl⟩ := List.mem_map.mp hc
  exact tLet_of _
theorem tPart_len (i n : Nat) : (tPart i n).length = n := by unfold tPart; simp
def muW : List (List Nat) := [[97, 97, 98], [97, 98, 97, 97, 98], [97, 97, 98, 97, 97, 98], [97, 98, 98, 97], [98, 98], [97, 97, 98, 98], [97, 98, 98, 97, 97, 98], [98, 97, 97, 98, 98, 97], [97, 97, 98, 98, 97, 97], [98, 97, 98, 98, 97]]
theorem ends_ab {x : List Nat} (h : x ∈ ends5) : AB x := by
  simp [ends5] at h
  intro c hc
  rcases h with rfl | rfl | rfl | rfl | rfl <;> simp at hc <;> omega
theorem atI_ends {v : Int} (h0 : 0 ≤ v) (h1 : v < 5) : ∃ x ∈ ends5, atI [D.str [], D.str [97], D.str [98], D.str [97, 97], D.str [98, 98]] v = some (.str x) := by
  have : v = 0 ∨ v = 1 ∨ v = 2 ∨ v = 3 ∨ v = 4 := by omega
  rcases this with rfl | rfl | rfl | rfl | rfl
  · exact ⟨[], by decide, by simp⟩
  · exact ⟨[97], by decide, by simp⟩
  · exact ⟨[98], by decide, by simp⟩
  · exact ⟨[97, 97], by decide, by simp⟩
  · exact ⟨[98, 98], by decide, by simp⟩
theorem muW_ab : ∀ x ∈ muW, x.length ≤ 6 ∧ AB x := by
  intro x hx
  simp [muW] at hx
  rcases hx with rfl | rfl | rfl | rfl | rfl | rfl | rfl | rfl | rfl | rfl <;> exact ⟨by simp, fun c hc => by simp at hc; omega⟩
theorem atI_mem {α : Type} {f : α → D} {l : List α} {v : Int} (h0 : 0 ≤ v) (h1 : v < l.length) : ∃ x ∈ l, atI (l.map f) v = some (f x) := by
  obtain ⟨n, rfl⟩ := Int.eq_ofNat_of_zero_le h0
  have hn : n < l.length := by omega
  refine ⟨l[n], List.getElem_mem hn, ?_⟩
  have := atI_nat (l := l.map f) (n := n) (by simpa using hn)
  simpa using this
theorem drawn_free_ok {n : Nat} {b : List D} {Q : RV → List SV → Prop} (hb : Box n b) (hn : n + 30 ≤ 1000000000) (h : ∀ w b', Box (n + 30) b' → w.length ≤ 100 → AB w → Q (.d (.str w)) [.own true b']) : wF F__law_drawn_free [.own true b] Q := by
  unfold F__law_drawn_free
  rw [wF_run]
  unfold B__law_drawn_free
  simp
  refine take_ok hb (by omega) (by omega) (by omega) fun way b1 hb1 w0 w1 => ?_
  simp
  by_cases hw : way < 2
  · simp [hw]
    refine take_ok hb1 (by omega) (by omega) (by omega) fun i b2 hb2 i0 i1 => ?_
    simp
    refine take_ok hb2 (by omega) (by omega) (by omega) fun j b3 hb3 j0 j1 => ?_
    simp
    obtain ⟨m, hm, em⟩ := atI_mem (f := D.int) (l := [10, 40]) j0 (by simpa using j1)
    have em : atI [D.int 10, D.int 40] j = some (.int m) := em
    rw [em]
    have hm : m = 10 ∨ m = 40 := by simpa using hm
    simp
    refine take_ok hb3 (by omega) (by omega) (by omega) fun k b4 hb4 k0 k1 => ?_
    simp
    obtain ⟨i, rfl⟩ := Int.eq_ofNat_of_zero_le i0
    obtain ⟨k, rfl⟩ := Int.eq_ofNat_of_zero_le k0
    have ek : (4 : Int) + ((k : Nat) : Int) = ((4 + k : Nat) : Int) := by omega
    rw [ek]
    refine part_ok (by omega) (by omega) ?_
    simp
    exact h _ b4 (hb4.mono (by omega)) (by rw [tPart_len]; omega) (tPart_ab _ _)
  · simp [hw]
    refine take_ok hb1 (by omega) (by omega) (by omega) fun i b2 hb2 i0 i1 => ?_
    simp
    obtain ⟨x, hx, ex⟩ := atI_mem (f := D.str) (l := muW) i0 (by simpa [muW] using i1)
    have ex' := ex
    simp only [muW, List.map_cons, List.map_nil] at ex'
    rw [ex']
    obtain ⟨hx1, hx2⟩ := muW_ab x hx
    simp
    refine take_ok hb2 (by omega) (by omega) (by omega) fun k b3 hb3 k0 k1 => ?_
    simp
    refine ⟨by omega, wR_inv (fun t ρ => ∃ b w o3, Box (n + 3 + 2 * t) b ∧ AB w ∧ w.length + 4 ≤ 10 * 2 ^ t ∧ ρ = [some (.own true b), some (.d (.int way)), some (.d (.str w)), o3]) (k := 0) ⟨b3, x, _, hb3, hx2, by omega, rfl⟩ (fun t y ρ hy hP => ?_) fun ρ hP => ?_⟩
    · obtain ⟨b4, w, o3, hb4, hw1, hw2, rfl⟩ := hP
      obtain ⟨ht, rfl⟩ := range_at hy
      have ht3 : t < 3 := by omega
      have hp : 2 ^ t ≤ 4 := by
        have : 2 ^ t ≤ 2 ^ 2 := Nat.pow_le_pow_right (by omega) (by omega)
        simpa using this
      have hps : 2 ^ (0 + t + 1) = 2 * 2 ^ t := by rw [Nat.zero_add, Nat.pow_succ]; omega
      simp only [Nat.zero_add] at hw2 hb4
      simp
      refine take_ok hb4 (by omega) (by omega) (by omega) fun v b5 hb5 v0 v1 => ?_
      simp
      obtain ⟨u, hu, eu⟩ := atI_ends v0 (by omega)
      rw [eu]
      have hul := ends_len hu
      simp
      refine mu_ok hw1 (by omega) ?_
      have hml := mu_len w
      simp
      refine ⟨by omega, take_ok hb5 (by omega) (by omega) (by omega) fun v b6 hb6 v0 v1 => ?_⟩
      simp
      obtain ⟨z, hz, ez⟩ := atI_ends v0 (by omega)
      rw [ez]
      have hzl := ends_len hz
      simp
      have habn : AB (u ++ (mu w ++ z)) := (ends_ab hu).app ((mu_ab w).app (ends_ab hz))
      refine ⟨by omega, overlapL_ok (by simp; omega) ?_⟩
      unfold ovD
      cases ho : ovl (u ++ (mu w ++ z)) with
      | none =>
        simp
        exact ⟨b6, hb6.mono (by omega), _, habn, by rw [Nat.zero_add] at hps; rw [hps]; simp; omega, rfl, rfl⟩
      | some r =>
        simp
        refine mu_ok (w := [97, 98, 97, 97, 98]) (fun c hc => by simp at hc; omega) (by simp) ?_
        simp
        refine ⟨b6, hb6.mono (by omega), mu [97, 98, 97, 97, 98], mu_ab _, ?_, rfl, rfl⟩
        rw [mu_len]
        rw [Nat.zero_add] at hps
        rw [hps]
        have : 1 ≤ 2 ^ t := Nat.one_le_two_pow
        simp
        omega
    · obtain ⟨b4, w, o3, hb4, hw1, hw2, rfl⟩ := hP
      rw [List.length_map, List.length_range] at hb4 hw2
      have hk3 : (1 + k).toNat ≤ 3 := by omega
      have hp : 2 ^ (0 + (1 + k).toNat) ≤ 8 := by
        have : 2 ^ (0 + (1 + k).toNat) ≤ 2 ^ 3 := Nat.pow_le_pow_right (by omega) (by omega)
        simpa using this
      simp
      by_cases h5 : way = 5
      · subst h5
        simp
        refine near_ok (m := 2) hb4 (by omega) (by omega) (by omega) (by omega) fun u b5 hb5 hu1 hu2 => ?_
        simp
        refine h u b5 (hb5.mono (by omega)) (by omega) fun c hc => ?_
        rcases hu2 c hc with z | ⟨z1, z2⟩
        · exact hw1 c z
        · omega
      · simp [h5]
        exact h w b4 (hb4.mono (by omega)) (by omega) hw1
end K54
namespace K54
open PySem PySem.Spec PyProof.Rows L2 TL M
theorem atI_memD {l : List D} {v : Int} (h0 : 0 ≤ v) (h1 : v < l.length) : ∃ x ∈ l, atI l v = some x := by
  have := atI_mem (f := id) (l := l) h0 h1
  simpa using this
def oddW : List D := [.non, .int 5, .bl true, .str [97, 98, 101], .str [65], .lst [.str [97]], .tup [.str [97]], .dct [] [], .str [97, 32, 98], .str (List.replicate 201 97)]
theorem oddW_ok : ∀ x ∈ oddW, Gd 2 x ∧ (tyD x).isSome = true ∧ okL x = true ∧ w2D x = none := by
  intro x hx
  simp [oddW] at hx
  rcases hx with rfl | rfl | rfl | rfl | rfl | rfl | rfl | rfl | rfl | rfl <;> refine ⟨by simp [Gd], by decide, by simp [okL], by simp [w2D]⟩
theorem odd_word_ok {n : Nat} {b : List D} {Q : RV → List SV → Prop} (hb : Box n b) (hn : n + 1 ≤ 1000000000) (h : ∀ x b', Box (n + 1) b' → Gd 2 x → (tyD x).isSome = true → okL x = true → w2D x = none → Q (.d x) [.own true b']) : wF F__law_odd_word [.own true b] Q := by
  unfold F__law_odd_word
  rw [wF_run]
  unfold B__law_odd_word
  simp
  refine take_ok hb (by omega) (by omega) (by omega) fun v b1 hb1 v0 v1 => ?_
  obtain ⟨x, hx, ex⟩ := atI_memD (l := oddW) v0 (by simpa [oddW] using v1)
  obtain ⟨x1, x2, x3, x4⟩ := oddW_ok x hx
  simp
  change oq (atI oddW v) _
  rw [ex]
  simp
  exact h x b1 hb1 x1 x2 x3 x4
theorem asked_part {i n : Nat} (hi : i ≤ 10 ^ 30) (hn : n ≤ 200) : asked [112, 97, 114, 116] (.int i) (.int n) = [.str [116, 111, 108, 100], .str (tPart i n)] := by
  have e1 : idxD (.int (i : Int)) = some i := by simp [idxD]; omega
  have e2 : lenD' (.int (n : Int)) = some n := by simp [lenD']; omega
  simp [asked, cPart, e1, e2, cTold]
theorem asked_prefix {x : D} {n : Nat} (hn : n ≤ 200) : asked [112, 114, 101, 102, 105, 120] x (.int n) = [.str [116, 111, 108, 100], .str (tPart 0 n)] := by
  have e2 : lenD' (.int (n : Int)) = some n := by simp [lenD']; omega
  simp [asked, cPart, cPrefix, e2, cTold]
theorem asked_letter {y : D} {i : Nat} (hi : i ≤ 10 ^ 30) : asked [108, 101, 116, 116, 101, 114] (.int i) y = [.str [116, 111, 108, 100], .str (tPart i 1)] := by
  have e1 : idxD (.int (i : Int)) = some i := by simp [idxD]; omega
  simp [asked, cPart, cPrefix, cLetter, e1, cTold, tPart]
theorem asked_counts {y : D} {i : Nat} (hi : i ≤ 10 ^ 30) : asked [99, 111, 117, 110, 116, 115] (.int i) y = [.str [116, 111, 108, 100], .tup [.int (tCnt i).1, .int (tCnt i).2]] := by
  have e1 : idxD (.int (i : Int)) = some i := by simp [idxD]; omega
  simp [asked, cPart, cPrefix, cLetter, e1, cTold]
theorem asked_len {x y : D} (hy : lenD' y = none) : asked [112, 114, 101, 102, 105, 120] x y = [.str [108, 101, 110, 103, 116, 104], y] := by
  simp [asked, cPart, cPrefix, hy, cLength]
theorem asked_plen {y : D} (hy : lenD' y = none) : asked [112, 97, 114, 116] (.int 3) y = [.str [108, 101, 110, 103, 116, 104], y] := by
  have e1 : idxD (.int 3) = some 3 := by simp [idxD]
  simp [asked, cPart, e1, hy, cLength]
theorem asked_pidx {x y : D} (hx : idxD x = none) : asked [112, 97, 114, 116] x y = [.str [105, 110, 100, 101, 120], x] := by
  simp [asked, cPart, hx, cIndex]
theorem asked_lidx {x y : D} (hx : idxD x = none) : asked [108, 101, 116, 116, 101, 114] x y = [.str [105, 110, 100, 101, 120], x] := by
  simp [asked, cPart, cPrefix, hx, cIndex]
theorem asked_cidx {x y : D} (hx : idxD x = none) : asked [99, 111, 117, 110, 116, 115] x y = [.str [105, 110, 100, 101, 120], x] := by
  simp [asked, cPart, cPrefix, hx, cIndex]
def oddL : List D := [.non, .int (-1), .int 201, .bl true, .str [51], .lst [.int 3]]
theorem oddL_ok : ∀ x ∈ oddL, Gd 1 x ∧ (tyD x).isSome = true ∧ lenD' x = none := by
  intro x hx
  simp [oddL] at hx
  rcases hx with rfl | rfl | rfl | rfl | rfl | rfl <;> refine ⟨by simp [Gd], by decide, by simp [lenD']⟩
def oddI : List D := [.non, .int (-1), .int 1000000000000000000000000000001, .bl true, .str [51], .lst [.int 3]]
theorem oddI_ok : ∀ x ∈ oddI, Gd 1 x ∧ (tyD x).isSome = true ∧ idxD x = none := by
  intro x hx
  simp [oddI] at hx
  rcases hx with rfl | rfl | rfl | rfl | rfl | rfl <;> refine ⟨by simp [Gd], by decide, by simp [idxD]⟩
theorem Gd.mono : ∀ {n : Nat} {x : D}, Gd n x → Gd (n + 1) x
  | n, .non, h => trivial
  | n, .bl _, h => trivial
  | n, .int _, h => trivial
  | n, .str s, h => by cases n <;> exact h
  | n + 1, .lst xs, h => ⟨h.1, fun x hx => Gd.mono (h.2 x hx)⟩
  | n + 1, .tup xs, h => ⟨h.1, fun x hx => Gd.mono (h.2 x hx)⟩
  | n + 1, .dct ks xs, h => ⟨h.1, h.2.1, by omega⟩
  | 0, .lst xs, h => h.elim
  | 0, .tup xs, h => h.elim
  | 0, .dct ks xs, h => h.elim
  | n, .scr xs, h => by cases n <;> exact h.elim
  | n, .ins _ _ _, h => by cases n <;> exact h.elim
  | n, .ptr _, h => by cases n <;> exact h.elim
  | n, .exn _ _ _ _, h => by cases n <;> exact h.elim
theorem Gd.to {n m : Nat} {x : D} (h : Gd n x) (hm : n ≤ m) : Gd m x := by
  induction hm with
  | refl => exact h
  | step _ ih => exact ih.mono
end K54
namespace K54
open PySem PySem.Spec PyProof.Rows L2 TL M
theorem wS_cut {f g : Sx} {ρ : Sl} {Q : Fl → Sl → Prop} (P : Sl → Prop) (h1 : wS f ρ fun fl ρ' => fl = .nx ∧ P ρ') (h2 : ∀ ρ', P ρ' → wS g ρ' Q) : wS (sSeq f g) ρ Q := by
  rw [wS_Seq]
  refine wS.imp h1 fun fl ρ' q => ?_
  obtain ⟨rfl, q⟩ := q
  exact h2 ρ' q
theorem tP_gd {i n m : Nat} (hn : n ≤ 200) : Gd m (.str (tPart i n)) := by
  have := tPart_len i n
  cases m <;> (show (tPart i n).length ≤ 16777216) <;> omega
theorem gd_str {m : Nat} {s : List Nat} (h : s.length ≤ 16777216) : Gd m (.str s) := by cases m <;> exact h
theorem gd_int {m : Nat} {i : Int} : Gd m (.int i) := by cases m <;> trivial
theorem gd_nil {m : Nat} : Gd (m + 1) (.lst []) := ⟨by simp, fun x hx => by cases hx⟩
theorem gd_two {m : Nat} {x y : D} (hx : Gd m x) (hy : Gd m y) : Gd (m + 1) (.lst [x, y]) := ⟨by simp, fun z hz => by
  simp at hz
  rcases hz with rfl | rfl
  · exact hx
  · exact hy⟩
def I0 (n : Nat) (g : Bool) (t : Nat) (ρ : Sl) : Prop := ∃ (b : List D) (c : Bool) (o3 o4 o5 o6 o7 o8 o9 : Option SV), Box (n + 8 * t) b ∧ ρ = [some (.own true b), some (.d (.bl g)), some (.d (.bl c)), o3, o4, o5, o6, o7, o8, o9]
def I1 (n t : Nat) (g c : Bool) (o6 o7 o8 o9 : Option SV) (ρ : Sl) : Prop := ∃ (b : List D) (way : Int) (size : Nat), Box (n + 8 * t + 2) b ∧ 0 ≤ way ∧ way < 5 ∧ size ≤ 200 ∧ ρ = [some (.own true b), some (.d (.bl g)), some (.d (.bl c)), some (.d (.int t)), some (.d (.int way)), some (.d (.int size)), o6, o7, o8, o9]
def I2 (n t : Nat) (g c : Bool) (way : Int) (size : Nat) (o7 o8 o9 : Option SV) (ρ : Sl) : Prop := ∃ (b : List D) (i : Int), Box (n + 8 * t + 8) b ∧ i ≤ 10 ^ 30 ∧ ρ = [some (.own true b), some (.d (.bl g)), some (.d (.bl c)), some (.d (.int t)), some (.d (.int way)), some (.d (.int size)), some (.d (.int i)), o7, o8, o9]
theorem word_right_ok {n : Nat} {b : List D} {great by' : Bool} {Q : RV → List SV → Prop} (hb : Box n b) (hn : n + 100 ≤ 1000000000) (h : ∀ b', Box (n + 100) b' → Q (.d (.bl true)) [.own true b', .d (.bl great), .d (.bl by')]) : wF F__law_word_right [.own true b, .d (.bl great), .d (.bl by')] Q := by
  unfold F__law_word_right
  rw [wF_run]
  unfold B__law_word_right
  simp
  refine wR_inv (I0 n great) (k := 0) ⟨b, by', _, _, _, _, _, _, _, hb, rfl⟩ (fun t y ρ hy hP => ?_) fun ρ hP => ?_
  · obtain ⟨b1, c, o3, o4, o5, o6, o7, o8, o9, hb1, rfl⟩ := hP
    obtain ⟨ht, rfl⟩ := range_at hy
    simp only [Nat.zero_add] at hb1 ⊢
    rw [bName_ap, oq_some]
    refine wS_cut (I1 n t great c o6 o7 o8 o9) ?_ ?_
    · simp
      refine take_ok hb1 (by omega) (by omega) (by omega) fun way b2 hb2 w0 w1 => ?_
      simp
      have fin : wF F__law_take [.own true b2, .d (.int 40)] fun r as => ∃ (b : List D) (v : Int), as = [.own true b, .d (.int 40)] ∧ r = .d (.int v) ∧ Box (n + 8 * t + 2) b ∧ 0 ≤ v ∧ v < 40 := take_ok hb2 (by omega) (by omega) (by omega) fun v b3 hb3 v0 v1 => ⟨b3, v, rfl, rfl, hb3, v0, v1⟩
      cases great
      · simp
        refine wF.imp fin fun r as q => ?_
        obtain ⟨b3, v, rfl, rfl, hb3, v0, v1⟩ := q
        simp
        obtain ⟨v, rfl⟩ := Int.eq_ofNat_of_zero_le v0
        exact ⟨b3, way, v, hb3, w0, w1, by omega, rfl⟩
      · simp
        by_cases h0 : t = 0
        · subst h0
          simp
          exact ⟨b2, way, 200, hb2.mono (by omega), w0, w1, by omega, rfl⟩
        · simp [h0]
          refine wF.imp fin fun r as q => ?_
          obtain ⟨b3, v, rfl, rfl, hb3, v0, v1⟩ := q
          simp
          obtain ⟨v, rfl⟩ := Int.eq_ofNat_of_zero_le v0
          exact ⟨b3, way, v, hb3, w0, w1, by omega, rfl⟩
    rintro ρ ⟨b2, way, size, hb2, w0, w1, hs, rfl⟩
    refine wS_cut (I2 n t great c way size o7 o8 o9) ?_ ?_
    · simp
      refine take_ok hb2 (by omega) (by omega) (by omega) fun v1 b3 hb3 v10 v11 => ?_
      simp
      refine take_ok hb3 (by omega) (by omega) (by omega) fun v2 b4 hb4 v20 v21 => ?_
      simp
      refine ⟨⟨v20, by omega⟩, take_ok hb4 (by omega) (by omega) (by omega) fun v3 b5 hb5 v30 v31 => ?_⟩
      simp
      refine take_ok hb5 (by omega) (by omega) (by omega) fun v4 b6 hb6 v40 v41 => ?_
      simp
      refine take_ok hb6 (by omega) (by omega) (by omega) fun v5 b7 hb7 v50 v51 => ?_
      simp
      have hp : (2 : Int) ^ v2.toNat ≤ 2 ^ 98 := by
        have h1 : (2 : Nat) ^ v2.toNat ≤ 2 ^ 98 := Nat.pow_le_pow_right (by omega) (by omega)
        have h2 : ((2 ^ v2.toNat : Nat) : Int) ≤ ((2 ^ 98 : Nat) : Int) := Int.ofNat_le.mpr h1
        rw [Int.natCast_pow] at h2
        exact h2
      generalize (2 : Int) ^ v2.toNat = pw at *
      have hl : ∀ x ∈ [v1, pw + v3 - 4, 1000000000000000000000000000000 - v4, 48271 * v5 * 100000000000000 % 1000000000000000000000000000000, 0], x ≤ (10 : Int) ^ 30 := by
        intro x hx
        simp at hx
        rcases hx with rfl | rfl | rfl | rfl | rfl <;> omega
      obtain ⟨i, hi, ei⟩ := atI_mem (f := D.int) (l := [v1, pw + v3 - 4, 1000000000000000000000000000000 - v4, 48271 * v5 * 100000000000000 % 1000000000000000000000000000000, 0]) w0 (by simpa using w1)
      simp only [List.map_cons, List.map_nil] at ei
      first
        | rw [ei]
        | (refine ⟨by omega, ?_⟩; rw [ei])
        | trace_state
      simp
      exact ⟨b7, i, hb7.mono (by omega), hl i hi, rfl⟩
    rintro ρ ⟨b3, i, hb3, hi, rfl⟩
    simp
    have hmx : ∃ k : Nat, k ≤ 10 ^ 30 ∧ (if 0 < i then i else 0) = (k : Int) := by
      by_cases h0 : 0 < i
      · exact ⟨i.toNat, by omega, by rw [if_pos h0]; omega⟩
      · exact ⟨0, by omega, by rw [if_neg h0]; rfl⟩
    obtain ⟨k, hk, ek⟩ := hmx
    rw [ek]
    refine asked_ok rfl rfl ?_
    rw [asked_part hk hs]
    simp
    refine part_ok (by omega) (by omega) ?_
    simp
    refine same_ok (gd_two (m := 3) (gd_str (by simp)) (tP_gd hs)) ?_
    simp
    refine asked_ok rfl rfl ?_
    rw [asked_prefix hs]
    simp
    refine asked_ok rfl rfl ?_
    rw [asked_letter hk]
    simp
    refine asked_ok rfl rfl ?_
    rw [asked_counts hk]
    simp
    refine part_ok (i := 0) (by omega) (by omega) ?_
    simp
    refine part_ok (n := 1) (by omega) (by omega) ?_
    simp
    refine counts_ok (by omega) ?_
    simp
    refine same_ok ⟨by simp, fun z hz => ?_⟩ ?_
    · simp at hz
      rcases hz with rfl | rfl | rfl
      · exact gd_two (gd_str (by simp)) (tP_gd hs)
      · exact gd_two (gd_str (by simp)) (tP_gd (by omega))
      · exact gd_two (gd_str (by simp)) ⟨by simp, fun z hz => by
          simp at hz
          rcases hz with rfl | rfl <;> exact gd_int⟩
    simp
    exact ⟨b3, _, _, _, _, _, _, _, _, hb3.mono (by omega), rfl⟩
  · obtain ⟨b1, c, o3, o4, o5, o6, o7, o8, o9, hb1, rfl⟩ := hP
    rw [List.length_map, List.length_range] at hb1
    simp
    refine take_ok hb1 (by omega) (by omega) (by omega) fun v1 b2 hb2 v10 v11 => ?_
    simp
    obtain ⟨x, hx, ex⟩ := atI_memD (l := oddL) v10 (by simpa [oddL] using v11)
    obtain ⟨x1, x2, x3⟩ := oddL_ok x hx
    change oq (atI oddL v1) _
    rw [ex]
    simp
    refine take_ok hb2 (by omega) (by omega) (by omega) fun v2 b3 hb3 v20 v21 => ?_
    simp
    obtain ⟨y, hy, ey⟩ := atI_memD (l := oddI) v20 (by simpa [oddI] using v21)
    obtain ⟨y1, y2, y3⟩ := oddI_ok y hy
    change oq (atI oddI v2) _
    rw [ey]
    simp
    refine asked_ok rfl x2 ?_
    rw [asked_len x3]
    simp
    refine asked_ok y2 x2 ?_
    rw [asked_pidx y3]
    simp
    refine asked_ok rfl x2 ?_
    rw [asked_plen x3]
    simp
    refine asked_ok y2 rfl ?_
    rw [asked_lidx y3]
    simp
    refine asked_ok y2 rfl ?_
    rw [asked_cidx y3]
    simp
    have gx : Gd 2 x := x1.to (by omega)
    have gy : Gd 2 y := y1.to (by omega)
    refine same_ok ⟨by simp, fun z hz => ?_⟩ ?_
    · simp at hz
      rcases hz with rfl | rfl | rfl | rfl | rfl <;> first | exact gd_two (gd_str (by simp)) gx | exact gd_two (gd_str (by simp)) gy
    simp
    exact h b3 (hb3.mono (by omega))
end K54
namespace K54
open PySem PySem.Spec PyProof.Rows L2 TL M
def J1 (n : Nat) (c : Bool) (ρ : Sl) : Prop := ∃ (b : List D) (w : List Nat), Box (n + 40) b ∧ AB w ∧ w.length ≤ 100 ∧ ρ = [some (.own true b), some (.d (.bl c)), some (.d (.str w)), none, none, none]
theorem w2_of {w : List Nat} (hw : AB w) (hl : w.length ≤ 100) : w2D (.str w) = some w := by
  have h : w.length ≤ 200 ∧ w.all (fun c => c == 97 || c == 98) = true := ⟨by omega, by
    rw [List.all_eq_true]
    intro c hc
    rcases hw c hc with rfl | rfl <;> decide⟩
  show (if w.length ≤ 200 ∧ w.all (fun c => c == 97 || c == 98) = true then some w else none) = some w
  rw [if_pos h]
theorem peeling_right_ok {n : Nat} {b : List D} {c : Bool} {Q : RV → List SV → Prop} (hb : Box n b) (hn : n + 100 ≤ 1000000000) (h : ∀ b', Box (n + 40) b' → Q (.d (.bl true)) [.own true b', .d (.bl c)]) : wF F__law_peeling_right [.own true b, .d (.bl c)] Q := by
  unfold F__law_peeling_right
  rw [wF_run]
  unfold B__law_peeling_right
  refine ⟨rfl, ?_⟩
  show wS (sSeq _ (sSeq _ _)) [some (.own true b), some (.d (.bl c)), none, none, none, none] _
  have cut2 : ∀ {f g k : Sx} {ρ : Sl} {Q : Fl → Sl → Prop} (P : Sl → Prop), wS (sSeq f g) ρ (fun fl ρ' => fl = .nx ∧ P ρ') → (∀ ρ', P ρ' → wS k ρ' Q) → wS (sSeq f (sSeq g k)) ρ Q := fun {f g k ρ Q} P h1 h2 => by
    rw [wS_Seq] at h1 ⊢
    refine wS.imp h1 fun fl ρ1 q => ?_
    cases fl with
    | nx =>
      rw [thenS_nx] at q ⊢
      rw [wS_Seq]
      refine wS.imp q fun fl ρ2 q => ?_
      obtain ⟨rfl, q⟩ := q
      exact h2 _ q
    | bk => exact nomatch q.1
    | ct => exact nomatch q.1
    | rt r => exact nomatch q.1
  refine cut2 (J1 n c) ?_ ?_
  · simp
    refine drawn_free_ok hb (by omega) fun w b1 hb1 hw1 hw2 => ?_
    simp
    refine take_ok hb1 (by omega) (by omega) (by omega) fun v b2 hb2 v0 v1 => ?_
    simp
    split
    · refine take_ok hb2 (by omega) (by omega) (by omega) fun u b3 hb3 u0 u1 => ?_
      simp
      refine ⟨by omega, ?_⟩
      rw [cutL_to u0]
      exact ⟨b3, w.take u.toNat, hb3.mono (by omega), fun c hc => hw2 c (List.mem_of_mem_take hc), by rw [List.length_take]; omega, rfl⟩
    · exact ⟨b2, w, hb2.mono (by omega), hw2, hw1, rfl⟩
  · rintro ρ ⟨b1, w, hb1, hw, hl, rfl⟩
    have e2 := w2_of hw hl
    have hok : okL (.str w) = true := by simp [okL]; omega
    simp
    refine peeledA_ok rfl hok ?_
    simp
    refine overlapL_ok (by omega) ?_
    simp
    have hQ := h b1 hb1
    refine ⟨by omega, ?_⟩
    by_cases h7 : w.length < 7
    · have e7 : ((w.length : Int) < 7) = True := eq_true (by omega)
      have e3 : peeledL (.str w) = [.str [115, 104, 111, 114, 116], .str w] := by simp [peeledL, e2, h7, cShort]
      simp [e7, e3]
      refine same_ok (gd_two (m := 3) (gd_str (by simp)) (gd_str (by omega))) ?_
      simp
      exact hQ
    · have e7 : ((w.length : Int) < 7) = False := eq_false (by omega)
      simp [e7]
      unfold ovD
      cases ho : ovl w with
      | some r =>
        obtain ⟨e, st⟩ := r
        have e3 : peeledL (.str w) = [.str [111, 118, 101, 114, 108, 97, 112], .tup [.int e, .int st]] := by simp [peeledL, e2, h7, ho, cOverlap]
        simp [e3]
        refine same_ok (gd_two (m := 3) (gd_str (by simp)) ⟨by simp, fun z hz => by
          simp at hz
          rcases hz with rfl | rfl <;> exact gd_int⟩) ?_
        simp
        exact hQ
      | none =>
        obtain ⟨⟨x, y, z⟩, t1, t2⟩ := ways_one (by omega) hw ho
        have e3 : peeledL (.str w) = [.str [116, 111, 108, 100], .tup [.str x, .str y, .str z]] := by simp [peeledL, e2, h7, ho, cTold, peelD, t2]
        simp [e3]
        refine ways_ok (by omega) (by omega) hw ?_
        rw [t1]
        simp [wayD]
        refine same_ok ?_ ?_
        · have hx : x.length ≤ 2 ∧ z.length ≤ 2 ∧ y.length ≤ 1000 := by
            have hm : (x, y, z) ∈ waysOf w := by rw [t1]; simp
            unfold waysOf at hm
            obtain ⟨x', hx', hm⟩ := List.mem_flatMap.mp hm
            obtain ⟨z', hz', hm⟩ := List.mem_filterMap.mp hm
            have hh := hm
            unfold peelX at hm
            obtain ⟨y', hy', e⟩ := Option.map_eq_some_iff.mp hm
            cases e
            refine ⟨ends_len hx', ends_len hz', ?_⟩
            unfold peelAt at hy'
            split at hy'
            · obtain ⟨p1, p2⟩ := pairs_halve (inner w x z)
              obtain ⟨g1, g2⟩ := p2 y hy'
              rw [← g1, List.length_map]
              unfold pairsOf
              simp
              have : (inner w x z).length ≤ w.length := by unfold inner; simp; omega
              omega
            · cases hy'
          refine gd_two (m := 3) (gd_str (by simp)) ⟨by simp, fun z hz => ?_⟩
          simp at hz
          rcases hz with rfl | rfl | rfl <;> exact gd_str (by omega)
        · simp
          exact hQ
end K54
namespace K54
open PySem PySem.Spec PyProof.Rows L2 TL M
def L0 (ns : List Int) (_ : Nat) (ρ : Sl) : Prop := ∃ o1 o2 o3 o4 o5 o6, ρ = [some (.d (.scr (ns.map .int))), o1, o2, o3, o4, o5, o6]
def L1 (ns : List Int) (k : Nat) (g : Bool) (t : Nat) (ρ : Sl) : Prop := ∃ (b : List D) (c : Bool) (o5 o6 : Option SV), Box (1000 + 100 * t) b ∧ ρ = [some (.d (.scr (ns.map .int))), some (.d (.int k)), some (.own false b), some (.d (.bl c)), some (.d (.bl g)), o5, o6]
theorem law_true (ns : List Int) (h : ns.length ≤ 63) : ∃ as, F_law [.d (.scr (ns.map .int))] = some (.d (.bl true), as) := by
  suffices hw : wF F_law [.d (.scr (ns.map .int))] fun r as => r = .d (.bl true) by
    obtain ⟨r, as, e, q⟩ := wF_ex hw
    exact ⟨as, by rw [e, q]⟩
  unfold F_law
  rw [wF_run]
  unfold B_law
  simp
  refine ⟨by split <;> split <;> omega, wR_inv (L0 ns) (k := 0) ⟨_, _, _, _, _, _, rfl⟩ (fun k y ρ hy hP => ?_) fun ρ hP => ?_⟩
  · obtain ⟨o1, o2, o3, o4, o5, o6, rfl⟩ := hP
    obtain ⟨hk, rfl⟩ := range_at hy
    have hk4 : k < 4 := by
      clear hy
      revert hk
      generalize (ns.length : Int) = m
      intro hk
      by_cases h1 : m < 4
      · rw [if_pos h1] at hk
        split at hk <;> omega
      · rw [if_neg h1] at hk
        omega
    simp
    refine cell_ok (by omega) fun x => ?_
    simp
    refine box_ok fun b hb => ?_
    simp
    refine take_ok hb (by omega) (by omega) (by omega) fun v1 b1 hb1 v10 v11 => ?_
    simp
    refine take_ok hb1 (by omega) (by omega) (by omega) fun v2 b2 hb2 v20 v21 => ?_
    simp
    refine word_right_ok hb2 (by omega) fun b3 hb3 => ?_
    simp
    refine wR_inv (L1 ns k (decide (v2 = 0))) (k := 0) ⟨b3, _, _, _, hb3.mono (by omega), rfl⟩ (fun t y ρ hy hP => ?_) fun ρ hP => ?_
    · obtain ⟨b4, c, o5, o6, hb4, rfl⟩ := hP
      obtain ⟨ht, rfl⟩ := range_at hy
      simp
      refine peeling_right_ok hb4 (by omega) fun b5 hb5 => ?_
      simp
      exact ⟨b5, _, _, _, hb5.mono (by omega), rfl⟩
    · obtain ⟨b4, c, o5, o6, hb4, rfl⟩ := hP
      rw [List.length_map, List.length_range] at hb4
      simp
      refine odd_word_ok hb4 (by omega) fun x b5 hb5 x1 x2 x3 x4 => ?_
      simp
      refine take_ok hb5 (by omega) (by omega) (by omega) fun v3 b6 hb6 v30 v31 => ?_
      simp
      obtain ⟨z, hz, ez⟩ := atI_memD (l := [x, .str [97, 98, 99, 97, 98, 97, 98], .str [97, 98, 98, 97, 98, 97, 97, 98, 99]]) v30 (by simpa using v31)
      rw [ez]
      have hzz : Gd 2 z ∧ (tyD z).isSome = true ∧ okL z = true ∧ w2D z = none := by
        simp at hz
        rcases hz with rfl | rfl | rfl
        · exact ⟨x1, x2, x3, x4⟩
        · exact ⟨by simp [Gd], rfl, by simp [okL], by simp [w2D]⟩
        · exact ⟨by simp [Gd], rfl, by simp [okL], by simp [w2D]⟩
      obtain ⟨z1, z2, z3, z4⟩ := hzz
      simp
      refine peeledA_ok z2 z3 ?_
      have e3 : peeledL z = [.str [119, 111, 114, 100], z] := by simp [peeledL, z4, cWord]
      simp [e3]
      refine same_ok (gd_two (m := 3) (gd_str (by simp)) (z1.to (by omega))) ?_
      simp
      exact ⟨_, _, _, _, _, _, rfl⟩
  · obtain ⟨o1, o2, o3, o4, o5, o6, rfl⟩ := hP
    simp
end K54
namespace K54
open PySem PySem.Spec PyProof.Rows L2 TL M
theorem fin {l : PySem.W.OpenLaw} {w : World} {K : PySem.W.Frag} {h : Heap} {mg : Str → Option Value} {fa f : Addr} (X : K.In h) (G : h.Ns mainGlobals mg) (hfa : mg "law" = some (.ref fa)) (T : Tx K mg) {od an : Option Addr} {sl : Array (Option Value)} {oc kV dc pm cd ct : Value}
    (a : PySem.W.nsIn K mainGlobals "law" = some (some (.ref f)))
    (l1 : K.lookup f = some ⟨oc, od, .func (PySem.W.fnOf "law" "law" (defArgs s_law) (defBody s_law) (defScope s_law) .none kV dc pm an cd ct), sl⟩) (c : PySem.W.codeIn K cd "law" = true) (kp : PySem.W.keepIn K (.ref f) = true) :
    ∃ fd : FuncData, (∀ (s : Shared) (v : Value), BindsTo s fd ⟨[v], []⟩ [("script", v)]) ∧ ∀ base : Heap, K.In base → base.Ns mainGlobals mg → FnOk l.prog w K mg base CX0 8 fa fd ["script"] (spV K F_law) :=
  law_fd X G hfa a l1 c kp (fun s v => .of_eq rfl) fun base f fd F => fok_law T f fd F
end K54
open PySem PySem.W PyProof.Rows
set_option maxRecDepth 100000 in
set_option maxHeartbeats 0 in
theorem PySem.Challenge.cw_stringbench_k54_the_thue_word_and_peelin_holds : PySem.Challenge.rw_stringbench_k54_the_thue_word_and_peelin.Holds := by
  w_on; o_law; k_head; (case hw => w_witness2)
  k_fill
  refine M.law_walk (l := PySem.Challenge.rw_stringbench_k54_the_thue_word_and_peelin) (n := 63) (k := 8) K54.F_law rfl (by decide) rfl ⟨rfl, by decide, by decide⟩ (fun w h Y => PySem.W.kIn_of Y) ?F (fun ns hl => K54.law_true ns hl)
  intro w mg fa h KX G hmg
  refine' K54.fin KX G hmg ?T ?a ?l1 ?c ?kp
  case T =>
    constructor
    · exact M.free_of KX G (by k_is)
    · exact M.free_of KX G (by k_is)
    · exact M.free_of KX G (by k_is)
    · exact M.free_of KX G (by k_is)
    · exact M.free_of KX G (by k_is)
    · exact M.free_of KX G (by k_is)
    · exact M.free_of KX G (by k_is)
    · exact M.free_of KX G (by k_is)
    · exact M.free_of KX G (by k_is)
    · exact M.free_of KX G (by k_is)
    · exact M.free_of KX G (by k_is)
    · exact M.free_of KX G (by k_is)
    · exact M.free_of KX G (by k_is)
    · exact M.free_of KX G (by k_is)
    · refine' M.gstr_of KX G ?a_14 ?e_14; (case a_14 => k_is); (case e_14 => first | rfl | decide +kernel)
    · refine' M.gint_of KX G ?a_15 ?e_15; (case a_15 => k_is); (case e_15 => rfl)
    · refine' M.gint_of KX G ?a_16 ?e_16; (case a_16 => k_is); (case e_16 => rfl)
    · refine' M.gint_of KX G ?a_17 ?e_17; (case a_17 => k_is); (case e_17 => rfl)
    · refine' M.gint_of KX G ?a_18 ?e_18; (case a_18 => k_is); (case e_18 => rfl)
    · refine' M.gtup_of KX G [.str ⟨([] : List Nat).toArray⟩, .str ⟨([97] : List Nat).toArray⟩, .str ⟨([98] : List Nat).toArray⟩, .str ⟨([97, 97] : List Nat).toArray⟩, .str ⟨([98, 98] : List Nat).toArray⟩] ?a_19 ?l_19 ?c_19 ?hs_19 ?hv_19 ?hr_19; (case a_19 => k_is); (case l_19 => k_is); (case c_19 => rfl); (case hs_19 => decide +kernel); (case hv_19 => exact .cons ⟨_, by rfl⟩ (.cons ⟨_, by rfl⟩ (.cons ⟨_, by rfl⟩ (.cons ⟨_, by rfl⟩ (.cons ⟨_, by rfl⟩ (.nil)))))); (case hr_19 => exact fun _ => ⟨_, _, rfl, rfl, ⟨_, _, rfl, rfl, ⟨_, _, rfl, rfl, ⟨_, _, rfl, rfl, ⟨_, _, rfl, rfl, rfl⟩⟩⟩⟩⟩)
    · refine' M.df_of KX G ?a_20 ?l_20 ?c_20 ?k_20; (case a_20 => k_is); (case l_20 => k_is); (case c_20 => k_is); (case k_20 => k_is)
    · refine' M.df_of KX G ?a_21 ?l_21 ?c_21 ?k_21; (case a_21 => k_is); (case l_21 => k_is); (case c_21 => k_is); (case k_21 => k_is)
    · refine' M.dfd_of KX G ?a_22 ?l_22 ?c_22 ?k_22 ?l2_22 ?e_22 ?hd_22 ?hv_22; (case a_22 => k_is); (case l_22 => k_is); (case c_22 => k_is); (case k_22 => k_is); (case l2_22 => k_is); (case e_22 => rfl); (case hd_22 => simp); (case hv_22 => exact .cons ⟨_, rfl⟩ (.cons ⟨_, rfl⟩ (.nil)))
    · refine' M.dfd_of KX G ?a_23 ?l_23 ?c_23 ?k_23 ?l2_23 ?e_23 ?hd_23 ?hv_23; (case a_23 => k_is); (case l_23 => k_is); (case c_23 => k_is); (case k_23 => k_is); (case l2_23 => k_is); (case e_23 => rfl); (case hd_23 => simp); (case hv_23 => exact .cons ⟨_, rfl⟩ (.cons ⟨_, rfl⟩ (.nil)))
    · refine' M.df_of KX G ?a_24 ?l_24 ?c_24 ?k_24; (case a_24 => k_is); (case l_24 => k_is); (case c_24 => k_is); (case k_24 => k_is)
    · refine' M.df_of KX G ?a_25 ?l_25 ?c_25 ?k_25; (case a_25 => k_is); (case l_25 => k_is); (case c_25 => k_is); (case k_25 => k_is)
    · refine' M.df_of KX G ?a_26 ?l_26 ?c_26 ?k_26; (case a_26 => k_is); (case l_26 => k_is); (case c_26 => k_is); (case k_26 => k_is)
    · refine' M.dfd_of KX G ?a_27 ?l_27 ?c_27 ?k_27 ?l2_27 ?e_27 ?hd_27 ?hv_27; (case a_27 => k_is); (case l_27 => k_is); (case c_27 => k_is); (case k_27 => k_is); (case l2_27 => k_is); (case e_27 => rfl); (case hd_27 => simp); (case hv_27 => exact .cons ⟨_, rfl⟩ (.cons ⟨_, rfl⟩ (.nil)))
    · refine' M.df_of KX G ?a_28 ?l_28 ?c_28 ?k_28; (case a_28 => k_is); (case l_28 => k_is); (case c_28 => k_is); (case k_28 => k_is)
    · refine' M.df_of KX G ?a_29 ?l_29 ?c_29 ?k_29; (case a_29 => k_is); (case l_29 => k_is); (case c_29 => k_is); (case k_29 => k_is)
    · refine' M.df_of KX G ?a_30 ?l_30 ?c_30 ?k_30; (case a_30 => k_is); (case l_30 => k_is); (case c_30 => k_is); (case k_30 => k_is)
    · refine' M.df_of KX G ?a_31 ?l_31 ?c_31 ?k_31; (case a_31 => k_is); (case l_31 => k_is); (case c_31 => k_is); (case k_31 => k_is)
    · refine' M.df_of KX G ?a_32 ?l_32 ?c_32 ?k_32; (case a_32 => k_is); (case l_32 => k_is); (case c_32 => k_is); (case k_32 => k_is)
    · refine' M.df_of KX G ?a_33 ?l_33 ?c_33 ?k_33; (case a_33 => k_is); (case l_33 => k_is); (case c_33 => k_is); (case k_33 => k_is)
    · refine' M.df_of KX G ?a_34 ?l_34 ?c_34 ?k_34; (case a_34 => k_is); (case l_34 => k_is); (case c_34 => k_is); (case k_34 => k_is)
    · refine' M.df_of KX G ?a_35 ?l_35 ?c_35 ?k_35; (case a_35 => k_is); (case l_35 => k_is); (case c_35 => k_is); (case k_35 => k_is)
    · refine' M.df_of KX G ?a_36 ?l_36 ?c_36 ?k_36; (case a_36 => k_is); (case l_36 => k_is); (case c_36 => k_is); (case k_36 => k_is)
    · refine' M.df_of KX G ?a_37 ?l_37 ?c_37 ?k_37; (case a_37 => k_is); (case l_37 => k_is); (case c_37 => k_is); (case k_37 => k_is)
    · refine' M.df_of KX G ?a_38 ?l_38 ?c_38 ?k_38; (case a_38 => k_is); (case l_38 => k_is); (case c_38 => k_is); (case k_38 => k_is)
    · refine' M.df_of KX G ?a_39 ?l_39 ?c_39 ?k_39; (case a_39 => k_is); (case l_39 => k_is); (case c_39 => k_is); (case k_39 => k_is)
    · refine' M.df_of KX G ?a_40 ?l_40 ?c_40 ?k_40; (case a_40 => k_is); (case l_40 => k_is); (case c_40 => k_is); (case k_40 => k_is)
    · refine' M.df_of KX G ?a_41 ?l_41 ?c_41 ?k_41; (case a_41 => k_is); (case l_41 => k_is); (case c_41 => k_is); (case k_41 => k_is)
    · refine' M.df_of KX G ?a_42 ?l_42 ?c_42 ?k_42; (case a_42 => k_is); (case l_42 => k_is); (case c_42 => k_is); (case k_42 => k_is)
    · refine' M.df_of KX G ?a_43 ?l_43 ?c_43 ?k_43; (case a_43 => k_is); (case l_43 => k_is); (case c_43 => k_is); (case k_43 => k_is)
    · refine' M.df_of KX G ?a_44 ?l_44 ?c_44 ?k_44; (case a_44 => k_is); (case l_44 => k_is); (case c_44 => k_is); (case k_44 => k_is)
    · refine' M.df_of KX G ?a_45 ?l_45 ?c_45 ?k_45; (case a_45 => k_is); (case l_45 => k_is); (case c_45 => k_is); (case k_45 => k_is)
    · refine' M.df_of KX G ?a_46 ?l_46 ?c_46 ?k_46; (case a_46 => k_is); (case l_46 => k_is); (case c_46 => k_is); (case k_46 => k_is)
    · refine' M.df_of KX G ?a_47 ?l_47 ?c_47 ?k_47; (case a_47 => k_is); (case l_47 => k_is); (case c_47 => k_is); (case k_47 => k_is)
    · refine' M.df_of KX G ?a_48 ?l_48 ?c_48 ?k_48; (case a_48 => k_is); (case l_48 => k_is); (case c_48 => k_is); (case k_48 => k_is)
    · refine' M.df_of KX G ?a_49 ?l_49 ?c_49 ?k_49; (case a_49 => k_is); (case l_49 => k_is); (case c_49 => k_is); (case k_49 => k_is)
    · refine' M.df_of KX G ?a_50 ?l_50 ?c_50 ?k_50; (case a_50 => k_is); (case l_50 => k_is); (case c_50 => k_is); (case k_50 => k_is)
    · refine' M.df_of KX G ?a_51 ?l_51 ?c_51 ?k_51; (case a_51 => k_is); (case l_51 => k_is); (case c_51 => k_is); (case k_51 => k_is)
    · refine' M.df_of KX G ?a_52 ?l_52 ?c_52 ?k_52; (case a_52 => k_is); (case l_52 => k_is); (case c_52 => k_is); (case k_52 => k_is)
    · refine' M.erf_of KX G ?a_53 ?lC_53 ?hb_53 ?sa_53 ?exC_53 ?tyC_53 ?kC_53 ?ga_53 ?gg_53 ?hdC_53 ?i1_53 ?tI_53 ?l_53 ?c_53 ?k_53 (List.forall_mem_cons.mpr ⟨?n0_53, fun _ h => nomatch h⟩); (case a_53 => k_is); (case lC_53 => k_is); (case hb_53 => first | rfl | decide +kernel); (case sa_53 => k_is); (case exC_53 => k_is); (case tyC_53 => k_is); (case kC_53 => k_is); (case ga_53 => k_is); (case gg_53 => k_is); (case hdC_53 => k_is); (case i1_53 => k_is); (case tI_53 => k_is); (case l_53 => k_is); (case c_53 => k_is); (case k_53 => k_is); (case n0_53 => k_is)
    · refine' M.erf_of KX G ?a_54 ?lC_54 ?hb_54 ?sa_54 ?exC_54 ?tyC_54 ?kC_54 ?ga_54 ?gg_54 ?hdC_54 ?i1_54 ?tI_54 ?l_54 ?c_54 ?k_54 (List.forall_mem_cons.mpr ⟨?n0_54, fun _ h => nomatch h⟩); (case a_54 => k_is); (case lC_54 => k_is); (case hb_54 => first | rfl | decide +kernel); (case sa_54 => k_is); (case exC_54 => k_is); (case tyC_54 => k_is); (case kC_54 => k_is); (case ga_54 => k_is); (case gg_54 => k_is); (case hdC_54 => k_is); (case i1_54 => k_is); (case tI_54 => k_is); (case l_54 => k_is); (case c_54 => k_is); (case k_54 => k_is); (case n0_54 => k_is)
    · refine' M.erf_of KX G ?a_55 ?lC_55 ?hb_55 ?sa_55 ?exC_55 ?tyC_55 ?kC_55 ?ga_55 ?gg_55 ?hdC_55 ?i1_55 ?tI_55 ?l_55 ?c_55 ?k_55 (List.forall_mem_cons.mpr ⟨?n0_55, fun _ h => nomatch h⟩); (case a_55 => k_is); (case lC_55 => k_is); (case hb_55 => first | rfl | decide +kernel); (case sa_55 => k_is); (case exC_55 => k_is); (case tyC_55 => k_is); (case kC_55 => k_is); (case ga_55 => k_is); (case gg_55 => k_is); (case hdC_55 => k_is); (case i1_55 => k_is); (case tI_55 => k_is); (case l_55 => k_is); (case c_55 => k_is); (case k_55 => k_is); (case n0_55 => k_is)
    · refine' M.erf_of KX G ?a_56 ?lC_56 ?hb_56 ?sa_56 ?exC_56 ?tyC_56 ?kC_56 ?ga_56 ?gg_56 ?hdC_56 ?i1_56 ?tI_56 ?l_56 ?c_56 ?k_56 (List.forall_mem_cons.mpr ⟨?n0_56, List.forall_mem_cons.mpr ⟨?n1_56, fun _ h => nomatch h⟩⟩); (case a_56 => k_is); (case lC_56 => k_is); (case hb_56 => first | rfl | decide +kernel); (case sa_56 => k_is); (case exC_56 => k_is); (case tyC_56 => k_is); (case kC_56 => k_is); (case ga_56 => k_is); (case gg_56 => k_is); (case hdC_56 => k_is); (case i1_56 => k_is); (case tI_56 => k_is); (case l_56 => k_is); (case c_56 => k_is); (case k_56 => k_is); (case n0_56 => k_is); (case n1_56 => k_is)
    · refine' M.erf_of KX G ?a_57 ?lC_57 ?hb_57 ?sa_57 ?exC_57 ?tyC_57 ?kC_57 ?ga_57 ?gg_57 ?hdC_57 ?i1_57 ?tI_57 ?l_57 ?c_57 ?k_57 (List.forall_mem_cons.mpr ⟨?n0_57, fun _ h => nomatch h⟩); (case a_57 => k_is); (case lC_57 => k_is); (case hb_57 => first | rfl | decide +kernel); (case sa_57 => k_is); (case exC_57 => k_is); (case tyC_57 => k_is); (case kC_57 => k_is); (case ga_57 => k_is); (case gg_57 => k_is); (case hdC_57 => k_is); (case i1_57 => k_is); (case tI_57 => k_is); (case l_57 => k_is); (case c_57 => k_is); (case k_57 => k_is); (case n0_57 => k_is)
    · refine' M.ertab_of (l := [("StringError", _), ("InvalidIndex", _), ("InvalidLength", _), ("InvalidWord", _), ("HasOverlap", _), ("TooShort", _)]) (List.forall_mem_cons.mpr ⟨M.ecf_of KX G ?a0_58 ?ex0_58 ?is0_58 ?ty0_58 ?ga0_58 ?gg0_58 ?hd0_58 (List.forall_mem_cons.mpr ⟨?n0x0_58, List.forall_mem_cons.mpr ⟨?n0x1_58, List.forall_mem_cons.mpr ⟨?n0x2_58, List.forall_mem_cons.mpr ⟨?n0x3_58, fun _ h => nomatch h⟩⟩⟩⟩), List.forall_mem_cons.mpr ⟨M.ecf_of KX G ?a1_58 ?ex1_58 ?is1_58 ?ty1_58 ?ga1_58 ?gg1_58 ?hd1_58 (List.forall_mem_cons.mpr ⟨?n1x0_58, List.forall_mem_cons.mpr ⟨?n1x1_58, List.forall_mem_cons.mpr ⟨?n1x2_58, List.forall_mem_cons.mpr ⟨?n1x3_58, fun _ h => nomatch h⟩⟩⟩⟩), List.forall_mem_cons.mpr ⟨M.ecf_of KX G ?a2_58 ?ex2_58 ?is2_58 ?ty2_58 ?ga2_58 ?gg2_58 ?hd2_58 (List.forall_mem_cons.mpr ⟨?n2x0_58, List.forall_mem_cons.mpr ⟨?n2x1_58, List.forall_mem_cons.mpr ⟨?n2x2_58, List.forall_mem_cons.mpr ⟨?n2x3_58, fun _ h => nomatch h⟩⟩⟩⟩), List.forall_mem_cons.mpr ⟨M.ecf_of KX G ?a3_58 ?ex3_58 ?is3_58 ?ty3_58 ?ga3_58 ?gg3_58 ?hd3_58 (List.forall_mem_cons.mpr ⟨?n3x0_58, List.forall_mem_cons.mpr ⟨?n3x1_58, List.forall_mem_cons.mpr ⟨?n3x2_58, List.forall_mem_cons.mpr ⟨?n3x3_58, fun _ h => nomatch h⟩⟩⟩⟩), List.forall_mem_cons.mpr ⟨M.ecf_of KX G ?a4_58 ?ex4_58 ?is4_58 ?ty4_58 ?ga4_58 ?gg4_58 ?hd4_58 (List.forall_mem_cons.mpr ⟨?n4x0_58, List.forall_mem_cons.mpr ⟨?n4x1_58, List.forall_mem_cons.mpr ⟨?n4x2_58, List.forall_mem_cons.mpr ⟨?n4x3_58, fun _ h => nomatch h⟩⟩⟩⟩), List.forall_mem_cons.mpr ⟨M.ecf_of KX G ?a5_58 ?ex5_58 ?is5_58 ?ty5_58 ?ga5_58 ?gg5_58 ?hd5_58 (List.forall_mem_cons.mpr ⟨?n5x0_58, List.forall_mem_cons.mpr ⟨?n5x1_58, List.forall_mem_cons.mpr ⟨?n5x2_58, List.forall_mem_cons.mpr ⟨?n5x3_58, fun _ h => nomatch h⟩⟩⟩⟩), fun _ h => nomatch h⟩⟩⟩⟩⟩⟩) (List.forall_mem_cons.mpr ⟨List.forall_mem_cons.mpr ⟨?s0x0_58, List.forall_mem_cons.mpr ⟨?s0x1_58, List.forall_mem_cons.mpr ⟨?s0x2_58, List.forall_mem_cons.mpr ⟨?s0x3_58, List.forall_mem_cons.mpr ⟨?s0x4_58, List.forall_mem_cons.mpr ⟨?s0x5_58, fun _ h => nomatch h⟩⟩⟩⟩⟩⟩, List.forall_mem_cons.mpr ⟨List.forall_mem_cons.mpr ⟨?s1x0_58, List.forall_mem_cons.mpr ⟨?s1x1_58, List.forall_mem_cons.mpr ⟨?s1x2_58, List.forall_mem_cons.mpr ⟨?s1x3_58, List.forall_mem_cons.mpr ⟨?s1x4_58, List.forall_mem_cons.mpr ⟨?s1x5_58, fun _ h => nomatch h⟩⟩⟩⟩⟩⟩, List.forall_mem_cons.mpr ⟨List.forall_mem_cons.mpr ⟨?s2x0_58, List.forall_mem_cons.mpr ⟨?s2x1_58, List.forall_mem_cons.mpr ⟨?s2x2_58, List.forall_mem_cons.mpr ⟨?s2x3_58, List.forall_mem_cons.mpr ⟨?s2x4_58, List.forall_mem_cons.mpr ⟨?s2x5_58, fun _ h => nomatch h⟩⟩⟩⟩⟩⟩, List.forall_mem_cons.mpr ⟨List.forall_mem_cons.mpr ⟨?s3x0_58, List.forall_mem_cons.mpr ⟨?s3x1_58, List.forall_mem_cons.mpr ⟨?s3x2_58, List.forall_mem_cons.mpr ⟨?s3x3_58, List.forall_mem_cons.mpr ⟨?s3x4_58, List.forall_mem_cons.mpr ⟨?s3x5_58, fun _ h => nomatch h⟩⟩⟩⟩⟩⟩, List.forall_mem_cons.mpr ⟨List.forall_mem_cons.mpr ⟨?s4x0_58, List.forall_mem_cons.mpr ⟨?s4x1_58, List.forall_mem_cons.mpr ⟨?s4x2_58, List.forall_mem_cons.mpr ⟨?s4x3_58, List.forall_mem_cons.mpr ⟨?s4x4_58, List.forall_mem_cons.mpr ⟨?s4x5_58, fun _ h => nomatch h⟩⟩⟩⟩⟩⟩, List.forall_mem_cons.mpr ⟨List.forall_mem_cons.mpr ⟨?s5x0_58, List.forall_mem_cons.mpr ⟨?s5x1_58, List.forall_mem_cons.mpr ⟨?s5x2_58, List.forall_mem_cons.mpr ⟨?s5x3_58, List.forall_mem_cons.mpr ⟨?s5x4_58, List.forall_mem_cons.mpr ⟨?s5x5_58, fun _ h => nomatch h⟩⟩⟩⟩⟩⟩, fun _ h => nomatch h⟩⟩⟩⟩⟩⟩); (case a0_58 => k_is); (case a1_58 => k_is); (case a2_58 => k_is); (case a3_58 => k_is); (case a4_58 => k_is); (case a5_58 => k_is); (case ex0_58 => k_is); (case is0_58 => k_is); (case ty0_58 => k_is); (case ga0_58 => k_is); (case gg0_58 => k_is); (case hd0_58 => k_is); (case n0x0_58 => k_is); (case n0x1_58 => k_is); (case n0x2_58 => k_is); (case n0x3_58 => k_is); (case ex1_58 => k_is); (case is1_58 => k_is); (case ty1_58 => k_is); (case ga1_58 => k_is); (case gg1_58 => k_is); (case hd1_58 => k_is); (case n1x0_58 => k_is); (case n1x1_58 => k_is); (case n1x2_58 => k_is); (case n1x3_58 => k_is); (case ex2_58 => k_is); (case is2_58 => k_is); (case ty2_58 => k_is); (case ga2_58 => k_is); (case gg2_58 => k_is); (case hd2_58 => k_is); (case n2x0_58 => k_is); (case n2x1_58 => k_is); (case n2x2_58 => k_is); (case n2x3_58 => k_is); (case ex3_58 => k_is); (case is3_58 => k_is); (case ty3_58 => k_is); (case ga3_58 => k_is); (case gg3_58 => k_is); (case hd3_58 => k_is); (case n3x0_58 => k_is); (case n3x1_58 => k_is); (case n3x2_58 => k_is); (case n3x3_58 => k_is); (case ex4_58 => k_is); (case is4_58 => k_is); (case ty4_58 => k_is); (case ga4_58 => k_is); (case gg4_58 => k_is); (case hd4_58 => k_is); (case n4x0_58 => k_is); (case n4x1_58 => k_is); (case n4x2_58 => k_is); (case n4x3_58 => k_is); (case ex5_58 => k_is); (case is5_58 => k_is); (case ty5_58 => k_is); (case ga5_58 => k_is); (case gg5_58 => k_is); (case hd5_58 => k_is); (case n5x0_58 => k_is); (case n5x1_58 => k_is); (case n5x2_58 => k_is); (case n5x3_58 => k_is); (case s0x0_58 => first | k_is | (show PySem.W.subIn _ _ _ = some true; k_is)); (case s0x1_58 => first | k_is | (show PySem.W.subIn _ _ _ = some false; k_is)); (case s0x2_58 => first | k_is | (show PySem.W.subIn _ _ _ = some false; k_is)); (case s0x3_58 => first | k_is | (show PySem.W.subIn _ _ _ = some false; k_is)); (case s0x4_58 => first | k_is | (show PySem.W.subIn _ _ _ = some false; k_is)); (case s0x5_58 => first | k_is | (show PySem.W.subIn _ _ _ = some false; k_is)); (case s1x0_58 => first | k_is | (show PySem.W.subIn _ _ _ = some true; k_is)); (case s1x1_58 => first | k_is | (show PySem.W.subIn _ _ _ = some true; k_is)); (case s1x2_58 => first | k_is | (show PySem.W.subIn _ _ _ = some false; k_is)); (case s1x3_58 => first | k_is | (show PySem.W.subIn _ _ _ = some false; k_is)); (case s1x4_58 => first | k_is | (show PySem.W.subIn _ _ _ = some false; k_is)); (case s1x5_58 => first | k_is | (show PySem.W.subIn _ _ _ = some false; k_is)); (case s2x0_58 => first | k_is | (show PySem.W.subIn _ _ _ = some true; k_is)); (case s2x1_58 => first | k_is | (show PySem.W.subIn _ _ _ = some false; k_is)); (case s2x2_58 => first | k_is | (show PySem.W.subIn _ _ _ = some true; k_is)); (case s2x3_58 => first | k_is | (show PySem.W.subIn _ _ _ = some false; k_is)); (case s2x4_58 => first | k_is | (show PySem.W.subIn _ _ _ = some false; k_is)); (case s2x5_58 => first | k_is | (show PySem.W.subIn _ _ _ = some false; k_is)); (case s3x0_58 => first | k_is | (show PySem.W.subIn _ _ _ = some true; k_is)); (case s3x1_58 => first | k_is | (show PySem.W.subIn _ _ _ = some false; k_is)); (case s3x2_58 => first | k_is | (show PySem.W.subIn _ _ _ = some false; k_is)); (case s3x3_58 => first | k_is | (show PySem.W.subIn _ _ _ = some true; k_is)); (case s3x4_58 => first | k_is | (show PySem.W.subIn _ _ _ = some false; k_is)); (case s3x5_58 => first | k_is | (show PySem.W.subIn _ _ _ = some false; k_is)); (case s4x0_58 => first | k_is | (show PySem.W.subIn _ _ _ = some true; k_is)); (case s4x1_58 => first | k_is | (show PySem.W.subIn _ _ _ = some false; k_is)); (case s4x2_58 => first | k_is | (show PySem.W.subIn _ _ _ = some false; k_is)); (case s4x3_58 => first | k_is | (show PySem.W.subIn _ _ _ = some false; k_is)); (case s4x4_58 => first | k_is | (show PySem.W.subIn _ _ _ = some true; k_is)); (case s4x5_58 => first | k_is | (show PySem.W.subIn _ _ _ = some false; k_is)); (case s5x0_58 => first | k_is | (show PySem.W.subIn _ _ _ = some true; k_is)); (case s5x1_58 => first | k_is | (show PySem.W.subIn _ _ _ = some false; k_is)); (case s5x2_58 => first | k_is | (show PySem.W.subIn _ _ _ = some false; k_is)); (case s5x3_58 => first | k_is | (show PySem.W.subIn _ _ _ = some false; k_is)); (case s5x4_58 => first | k_is | (show PySem.W.subIn _ _ _ = some false; k_is)); (case s5x5_58 => first | k_is | (show PySem.W.subIn _ _ _ = some true; k_is))
    · exact K54.told__law_asked _
    · exact K54.told__law_peeled
  (case a => k_is); (case l1 => k_is); (case c => k_is); (case kp => k_is)
