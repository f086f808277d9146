import PyProof.Rows.All
import Wide.All
import OpenK.AllK
import Wide.FinOn
import HandS.ForMost
import HandS.IsInst
import HandS.Defaults
import HandS.Wide
import HandS.TupAny
import HandS.TupMul
import HandS.Style
import HandS.StrMore
import HandS.Replace
import HandS.Conv
import HandS.TryMany
import HandS.ExcField
import HandS.ExcInit
import HandS.WordsExc
import HandS.ListItems
import PyProof.LongRange
import HandS.More
import HandS.WordsDict
import HandS.Small
import HandS.Flow
import HandS.ExcOwn
import PyProof.ExcBaseAll.ValueError
import KE.GoesEnum
import PySem.Challenge.RW_stringbench_k02_periods_and_borders
set_option Elab.async false
set_option linter.all false
set_option maxRecDepth 100000
set_option maxHeartbeats 4000000
namespace M
open PySem L2
inductive D where
  | non | bl (b : Bool) | int (i : Int) | str (s : List Nat) | lst (xs : List D) | tup (xs : List D) | scr (xs : List D)
  | ins (nm : Str) (ns : List Str) (xs : List D) | ptr (v : V) | exn (a dd : Addr) (ns : List Str) (xs : List D) | dct (ks : List L2.Key) (xs : List D)
inductive SV where
  | d (x : D) | own (b : Bool) (xs : List D)
structure Fm where
  hp : Hp
  par : Nat → Option Addr
inductive RV where
  | d (x : D) | own (xs : List D) | bor (i : Nat)
abbrev Sl := List (Option SV)
abbrev Sg := List (Option V)
def At {α : Type} (l : List (Option α)) (i : Nat) (x : α) : Prop := l[i]? = (some (some x) : Option (Option α))
abbrev dAt (ρ : Sl) (i : Nat) (x : D) : Prop := At ρ i (SV.d x)
abbrev oAt (ρ : Sl) (i : Nat) (b : Bool) (x : List D) : Prop := At ρ i (SV.own b x)
abbrev vAt (σ : Sg) (i : Nat) (v : V) : Prop := At σ i v
theorem At.inj {α : Type} {l : List (Option α)} {i : Nat} {x y : α} (h : At l i x) (k : At l i y) : x = y := by
  unfold At at *; rw [h] at k; cases k; rfl
theorem At.lt {α : Type} {l : List (Option α)} {i : Nat} {x : α} (h : At l i x) : i < l.length := (List.getElem?_eq_some_iff.mp h).1
theorem At.of_set {α : Type} {l : List (Option α)} {i j : Nat} {x : Option α} {y : α} (h : At (l.set i x) j y) : (i = j ∧ x = some y ∧ i < l.length) ∨ (i ≠ j ∧ At l j y) := by
  unfold At at *
  by_cases hj : i = j
  · subst hj
    by_cases hl : i < l.length
    · rw [List.getElem?_set_self hl] at h
      exact .inl ⟨rfl, by cases h; rfl, hl⟩
    · rw [List.getElem?_eq_none (by simpa using hl)] at h; cases h
  · rw [List.getElem?_set_ne hj] at h
    exact .inr ⟨hj, h⟩
theorem At.set_self {α : Type} {l : List (Option α)} {i : Nat} {x : α} (h : i < l.length) : At (l.set i (some x)) i x := List.getElem?_set_self h
theorem At.set_ne {α : Type} {l : List (Option α)} {i j : Nat} {x : Option α} {y : α} (hj : i ≠ j) (h : At l j y) : At (l.set i x) j y := by
  unfold At at *; rw [List.getElem?_set_ne hj]; exact h
theorem At.set_same {α : Type} {l : List (Option α)} {i : Nat} {x : α} (h : At l i x) : l.set i (some x) = l := by
  refine List.ext_getElem? fun j => ?_
  by_cases hj : i = j
  · subst hj
    rw [List.getElem?_set_self h.lt]; exact h.symm
  · rw [List.getElem?_set_ne hj]
mutual
def RD (K : PySem.W.Frag) (H : Hp) : D → V → Prop
  | .non, v => v = .non
  | .bl b, v => v = .bl b
  | .int i, v => v = .int i
  | .str s, v => v = .str ⟨s.toArray⟩
  | .lst ds, v => ∃ a xs, v = .ref a ∧ H a = some (.lst xs) ∧ RDs K H ds xs
  | .scr ds, v => ∃ a xs, v = .ref a ∧ SqL K H a xs ∧ RDs K H ds xs
  | .tup ds, v => ∃ a xs, v = .ref a ∧ SqT K H a xs ∧ RDs K H ds xs
  | .ins _ ns ds, v => ∃ a C dx fs, v = .ref a ∧ H a = some (.ins C dx fs) ∧ Cls K C ∧ (∀ f ∈ ns, NoAttr K C f) ∧ fs.map (·.1) = ns ∧ RDs K H ds (fs.map (·.2))
  | .ptr u, v => v = u
  | .exn a dd ns ds, v => v = .ref a ∧ ∃ us, H dd = some (.xd (ns.zip us)) ∧ us.length = ns.length ∧ RDs K H ds us
  | .dct ks ds, v => ∃ a kvs, v = .ref a ∧ H a = some (.dK kvs) ∧ kvs.map (·.1) = ks ∧ RDs K H ds (kvs.map (·.2))
def RDs (K : PySem.W.Frag) (H : Hp) : List D → List V → Prop
  | [], vs => vs = []
  | d :: ds, vs => ∃ x xs, vs = x :: xs ∧ RD K H d x ∧ RDs K H ds xs
end
theorem sameT {K : PySem.W.Frag} {H H' : Hp} {a : Addr} {xs : List V} (e : Same H H') (h : SqT K H a xs) : SqT K H' a xs := by
  rcases h with (h | ⟨o, h⟩) | h
  · exact .inl (.inl (e _ _ h))
  · exact .inl (.inr ⟨o, e _ _ h⟩)
  · exact .inr h
mutual
theorem RD.mono {K : PySem.W.Frag} {H H' : Hp} (e : Same H H') : ∀ (d : D) (v : V), RD K H d v → RD K H' d v
  | .non, v, h => h
  | .bl b, v, h => h
  | .int i, v, h => h
  | .str s, v, h => h
  | .lst ds, v, ⟨a, xs, e1, e2, e3⟩ => ⟨a, xs, e1, e _ _ e2, RDs.mono e ds xs e3⟩
  | .scr ds, v, ⟨a, xs, e1, e2, e3⟩ => ⟨a, xs, e1, e.seq e2, RDs.mono e ds xs e3⟩
  | .tup ds, v, ⟨a, xs, e1, e2, e3⟩ => ⟨a, xs, e1, sameT e e2, RDs.mono e ds xs e3⟩
  | .ins nm ns ds, v, ⟨a, C, dx, fs, e1, e2, c1, c2, e3, e4⟩ => ⟨a, C, dx, fs, e1, e _ _ e2, c1, c2, e3, RDs.mono e ds _ e4⟩
  | .ptr u, v, h => h
  | .exn a dd ns ds, v, ⟨h, us, h1, h2, h3⟩ => ⟨h, us, e _ _ h1, h2, RDs.mono e ds us h3⟩
  | .dct ks ds, v, ⟨a, kvs, e1, e2, e3, e4⟩ => ⟨a, kvs, e1, e _ _ e2, e3, RDs.mono e ds _ e4⟩
theorem RDs.mono {K : PySem.W.Frag} {H H' : Hp} (e : Same H H') : ∀ (ds : List D) (vs : List V), RDs K H ds vs → RDs K H' ds vs
  | [], vs, h => h
  | d :: ds, vs, ⟨x, xs, e1, e2, e3⟩ => ⟨x, xs, e1, RD.mono e d x e2, RDs.mono e ds xs e3⟩
end
theorem RDs.length {K : PySem.W.Frag} {H : Hp} : ∀ {ds : List D} {vs : List V}, RDs K H ds vs → vs.length = ds.length
  | [], vs, h => by cases h; rfl
  | d :: ds, vs, ⟨x, xs, e1, e2, e3⟩ => by subst e1; simp [RDs.length e3]
theorem RDs.append {K : PySem.W.Frag} {H : Hp} : ∀ {ds es : List D} {vs us : List V}, RDs K H ds vs → RDs K H es us → RDs K H (ds ++ es) (vs ++ us)
  | [], es, vs, us, h, k => by cases h; exact k
  | d :: ds, es, vs, us, ⟨x, xs, e1, e2, e3⟩, k => by subst e1; exact ⟨x, xs ++ us, rfl, e2, RDs.append e3 k⟩
theorem RDs.get {K : PySem.W.Frag} {H : Hp} : ∀ {ds : List D} {vs : List V} {i : Nat} {d : D}, RDs K H ds vs → ds[i]? = some d → ∃ v, vs[i]? = some v ∧ RD K H d v
  | [], vs, i, d, h, e => by simp at e
  | d0 :: ds, vs, 0, d, ⟨x, xs, e1, e2, e3⟩, e => by
    subst e1; simp at e; subst e; exact ⟨x, rfl, e2⟩
  | d0 :: ds, vs, i + 1, d, ⟨x, xs, e1, e2, e3⟩, e => by
    subst e1; simp at e
    obtain ⟨v, h1, h2⟩ := RDs.get e3 e
    exact ⟨v, by simpa using h1, h2⟩
theorem RDs.getV {K : PySem.W.Frag} {H : Hp} : ∀ {ds : List D} {vs : List V} {i : Nat} {v : V}, RDs K H ds vs → vs[i]? = some v → ∃ d, ds[i]? = some d ∧ RD K H d v
  | [], vs, i, d, h, e => by cases h; simp at e
  | d0 :: ds, vs, 0, v, ⟨x, xs, e1, e2, e3⟩, e => by
    subst e1; simp at e; subst e; exact ⟨d0, rfl, e2⟩
  | d0 :: ds, vs, i + 1, v, ⟨x, xs, e1, e2, e3⟩, e => by
    subst e1; simp at e
    obtain ⟨d, h1, h2⟩ := RDs.getV e3 e
    exact ⟨d, by simpa using h1, h2⟩
theorem RDs.take {K : PySem.W.Frag} {H : Hp} : ∀ {ds : List D} {vs : List V} (n : Nat), RDs K H ds vs → RDs K H (ds.take n) (vs.take n)
  | _, _, 0, _ => by simp [RDs]
  | [], vs, n + 1, h => by cases h; simp [RDs]
  | d :: ds, vs, n + 1, ⟨x, xs, e1, e2, e3⟩ => by subst e1; exact ⟨x, xs.take n, rfl, e2, RDs.take n e3⟩
theorem RDs.drop {K : PySem.W.Frag} {H : Hp} : ∀ {ds : List D} {vs : List V} (n : Nat), RDs K H ds vs → RDs K H (ds.drop n) (vs.drop n)
  | _, _, 0, h => by simpa using h
  | [], vs, n + 1, h => by cases h; simp [RDs]
  | d :: ds, vs, n + 1, ⟨x, xs, e1, e2, e3⟩ => by subst e1; simpa using RDs.drop n e3
theorem RDs.set {K : PySem.W.Frag} {H : Hp} {d : D} {x : V} (hx : RD K H d x) : ∀ {ds : List D} {vs : List V} (n : Nat), RDs K H ds vs → RDs K H (ds.set n d) (vs.set n x)
  | [], vs, n, h => by cases h; simp [RDs]
  | d0 :: ds, vs, 0, ⟨y, xs, e1, e2, e3⟩ => by subst e1; exact ⟨x, xs, rfl, hx, e3⟩
  | d0 :: ds, vs, n + 1, ⟨y, xs, e1, e2, e3⟩ => by subst e1; exact ⟨y, xs.set n x, rfl, e2, RDs.set hx n e3⟩
theorem RDs.one {K : PySem.W.Frag} {H : Hp} {d : D} {x : V} (h : RD K H d x) : RDs K H [d] [x] := ⟨x, [], rfl, h, rfl⟩
theorem RDs.eraseIdx {K : PySem.W.Frag} {H : Hp} : ∀ {ds : List D} {vs : List V} (n : Nat), RDs K H ds vs → RDs K H (ds.eraseIdx n) (vs.eraseIdx n)
  | [], vs, n, h => by cases h; simp [RDs]
  | d :: ds, vs, 0, ⟨x, xs, e1, e2, e3⟩ => by subst e1; simpa using e3
  | d :: ds, vs, n + 1, ⟨x, xs, e1, e2, e3⟩ => by subst e1; exact ⟨x, xs.eraseIdx n, rfl, e2, RDs.eraseIdx n e3⟩
structure Rep (K : PySem.W.Frag) (F : Fm) (G H : Hp) (σ : Sg) (ρ : Sl) : Prop where
  gh : Same G H
  fh : Same F.hp H
  fg : ∀ b o, F.hp b = some o → G b = none
  len : ρ.length = σ.length
  dat : ∀ i x, dAt ρ i x → ∃ v, vAt σ i v ∧ RD K G x v
  own : ∀ i b xs, oAt ρ i b xs → ∃ p vs, vAt σ i (.ref p) ∧ H p = some (.lst vs) ∧ G p = none ∧ F.hp p = none ∧ RDs K G xs vs ∧ (b = true → F.par i = some p)
  sep : ∀ i j p b c xs ys, i ≠ j → oAt ρ i b xs → oAt ρ j c ys → vAt σ i (.ref p) → ¬ vAt σ j (.ref p)
def RR (K : PySem.W.Frag) (F : Fm) (G H : Hp) (σ : Sg) (ρ : Sl) : RV → V → Prop
  | .d x, v => RD K G x v
  | .own xs, v => ∃ p vs, v = .ref p ∧ H p = some (.lst vs) ∧ G p = none ∧ F.hp p = none ∧ RDs K G xs vs ∧ ∀ i b ys, oAt ρ i b ys → ¬ vAt σ i (.ref p)
  | .bor i, v => vAt σ i v
theorem Same.updN {G : Hp} {p : Addr} {o : HO} (h : G p = none) : Same G (upd G p o) := fun b u e => by rw [upd_ne (ne_of_none e h)]; exact e
theorem Same.updB {G H : Hp} {p : Addr} {o : HO} (h : Same G H) : Same (upd G p o) (upd H p o) := fun b u e => by
  unfold upd at *
  split at e <;> rename_i hb
  · rw [if_pos hb]; exact e
  · rw [if_neg hb]; exact h _ _ e
section
variable {K : PySem.W.Frag} {F : Fm} {G H : Hp} {σ : Sg} {ρ : Sl}
theorem Rep.frzP (R : Rep K F G H σ ρ) {p : Addr} {vs : List V} (hp : H p = some (.lst vs)) (gp : G p = none) (fp : F.hp p = none) (ns : ∀ i b ys, oAt ρ i b ys → ¬ vAt σ i (.ref p)) :
    Rep K F (upd G p (.lst vs)) H σ ρ where
  gh := fun b o e => by
    unfold upd at e
    split at e <;> rename_i hb
    · cases e; rw [hb]; exact hp
    · exact R.gh b o e
  fh := R.fh
  fg := fun b o e => by
    have hb : b ≠ p := ne_of_none e fp
    rw [upd_ne hb]; exact R.fg b o e
  len := R.len
  dat := fun i x e => by
    obtain ⟨v, h1, h2⟩ := R.dat i x e
    exact ⟨v, h1, RD.mono (Same.updN gp) _ _ h2⟩
  own := fun i b xs e => by
    obtain ⟨q, us, h1, h2, h3, h4, h5, h6⟩ := R.own i b xs e
    have hq : q ≠ p := fun z => ns i b xs e (z ▸ h1)
    exact ⟨q, us, h1, h2, by rw [upd_ne hq]; exact h3, h4, RDs.mono (Same.updN gp) _ _ h5, h6⟩
  sep := R.sep
theorem RDs.frzP {xs : List D} {p : Addr} {vs : List V} (gp : G p = none) (h : RDs K G xs vs) : RD K (upd G p (.lst vs)) (.lst xs) (.ref p) :=
  ⟨p, vs, rfl, upd_same, RDs.mono (Same.updN gp) _ _ h⟩
theorem Rep.setD (R : Rep K F G H σ ρ) {i : Nat} {x : D} {v : V} (hv : RD K G x v) : Rep K F G H (σ.set i (some v)) (ρ.set i (some (.d x))) where
  gh := R.gh
  fh := R.fh
  fg := R.fg
  len := by simpa using R.len
  dat := fun j y e => by
    rcases e.of_set with ⟨rfl, e, hl⟩ | ⟨hj, e⟩
    · cases e
      exact ⟨v, At.set_self (by rw [← R.len]; exact hl), hv⟩
    · obtain ⟨u, h1, h2⟩ := R.dat j y e
      exact ⟨u, h1.set_ne hj, h2⟩
  own := fun j b y e => by
    rcases e.of_set with ⟨rfl, e, hl⟩ | ⟨hj, e⟩
    · cases e
    · obtain ⟨p, vs, h1, h2⟩ := R.own j b y e
      exact ⟨p, vs, h1.set_ne hj, h2⟩
  sep := fun j k p b c xs ys hjk e1 e2 e3 e4 => by
    rcases e1.of_set with ⟨rfl, e, hl⟩ | ⟨hj, e1⟩
    · cases e
    rcases e2.of_set with ⟨rfl, e, hl⟩ | ⟨hk, e2⟩
    · cases e
    rcases e3.of_set with ⟨z, e, hl⟩ | ⟨_, e3⟩
    · exact hj z
    rcases e4.of_set with ⟨z, e, hl⟩ | ⟨_, e4⟩
    · exact hk z
    exact R.sep j k p b c xs ys hjk e1 e2 e3 e4
theorem Rep.clear (R : Rep K F G H σ ρ) {i : Nat} {o : Option V} : Rep K F G H (σ.set i o) (ρ.set i none) where
  gh := R.gh
  fh := R.fh
  fg := R.fg
  len := by simpa using R.len
  dat := fun j y e => by
    rcases e.of_set with ⟨rfl, e, hl⟩ | ⟨hj, e⟩
    · cases e
    · obtain ⟨u, h1, h2⟩ := R.dat j y e
      exact ⟨u, h1.set_ne hj, h2⟩
  own := fun j b y e => by
    rcases e.of_set with ⟨rfl, e, hl⟩ | ⟨hj, e⟩
    · cases e
    · obtain ⟨p, vs, h1, h2⟩ := R.own j b y e
      exact ⟨p, vs, h1.set_ne hj, h2⟩
  sep := fun j k p b c xs ys hjk e1 e2 e3 e4 => by
    rcases e1.of_set with ⟨rfl, e, hl⟩ | ⟨hj, e1⟩
    · cases e
    rcases e2.of_set with ⟨rfl, e, hl⟩ | ⟨hk, e2⟩
    · cases e
    rcases e3.of_set with ⟨z, e, hl⟩ | ⟨_, e3⟩
    · exact hj z
    rcases e4.of_set with ⟨z, e, hl⟩ | ⟨_, e4⟩
    · exact hk z
    exact R.sep j k p b c xs ys hjk e1 e2 e3 e4
theorem Rep.setO (R : Rep K F G H σ ρ) {i : Nat} {xs : List D} {v : V} (hv : RR K F G H σ ρ (.own xs) v) : Rep K F G H (σ.set i (some v)) (ρ.set i (some (.own false xs))) := by
  obtain ⟨p, vs, rfl, hp, gp, fp, hr, hs⟩ := hv
  refine ⟨R.gh, R.fh, R.fg, by simpa using R.len, fun j y e => ?_, fun j b y e => ?_, fun j k q b c as bs hjk e1 e2 e3 e4 => ?_⟩
  · rcases e.of_set with ⟨rfl, e, hl⟩ | ⟨hj, e⟩
    · cases e
    · obtain ⟨u, h1, h2⟩ := R.dat j y e
      exact ⟨u, h1.set_ne hj, h2⟩
  · rcases e.of_set with ⟨rfl, e, hl⟩ | ⟨hj, e⟩
    · cases e
      exact ⟨p, vs, At.set_self (by rw [← R.len]; exact hl), hp, gp, fp, hr, fun z => nomatch z⟩
    · obtain ⟨p, vs, h1, h2⟩ := R.own j b y e
      exact ⟨p, vs, h1.set_ne hj, h2⟩
  · rcases e1.of_set with ⟨rfl, e, hl⟩ | ⟨hj, e1⟩
    · rcases e2.of_set with ⟨z, e', hl'⟩ | ⟨hk, e2⟩
      · exact hjk z
      rcases e3.of_set with ⟨_, e, hl⟩ | ⟨z, e3⟩
      · cases e
        rcases e4.of_set with ⟨z, _, _⟩ | ⟨_, e4⟩
        · exact hk z
        · exact hs k c bs e2 e4
      · exact z rfl
    · rcases e3.of_set with ⟨z, _, _⟩ | ⟨_, e3⟩
      · exact hj z
      rcases e2.of_set with ⟨rfl, e', hl'⟩ | ⟨hk, e2⟩
      · rcases e4.of_set with ⟨_, e, _⟩ | ⟨z, _⟩
        · cases e
          exact hs j b as e1 e3
        · exact z rfl
      · rcases e4.of_set with ⟨z, _, _⟩ | ⟨_, e4⟩
        · exact hk z
        · exact R.sep j k q b c as bs hjk e1 e2 e3 e4
theorem Rep.frzS (R : Rep K F G H σ ρ) {i : Nat} {b : Bool} {xs : List D} (e : oAt ρ i b xs) :
    ∃ p vs, vAt σ i (.ref p) ∧ Same G (upd G p (.lst vs)) ∧ Rep K F (upd G p (.lst vs)) H σ (ρ.set i (some (.d (.lst xs)))) ∧ RD K (upd G p (.lst vs)) (.lst xs) (.ref p) := by
  obtain ⟨p, vs, h1, h2, h3, h4, h5, h6⟩ := R.own i b xs e
  have R1 : Rep K F G H (σ.set i (some (.ref p))) (ρ.set i none) := R.clear
  rw [h1.set_same] at R1
  have R2 := R1.frzP h2 h3 h4 (fun j c ys q z => by
    rcases At.of_set q with ⟨rfl, e, _⟩ | ⟨hj, q⟩
    · cases e
    · exact R.sep i j p b c xs ys hj e q h1 z)
  have rd := RDs.frzP (p := p) h3 h5
  have R3 := R2.setD (i := i) rd
  rw [List.set_set, h1.set_same] at R3
  exact ⟨p, vs, h1, Same.updN h3, R3, rd⟩
theorem Rep.wr (R : Rep K F G H σ ρ) {i : Nat} {b : Bool} {xs ys : List D} {p : Addr} {us : List V} (e : oAt ρ i b xs) (hp : vAt σ i (.ref p)) (hy : RDs K G ys us) : Rep K F G (upd H p (.lst us)) σ (ρ.set i (some (.own b ys))) := by
  obtain ⟨q, vs, h1, h2, h3, h4, h5, h6⟩ := R.own i b xs e
  obtain rfl : q = p := by have := h1.inj hp; cases this; rfl
  refine ⟨fun b o z => ?_, fun b o z => ?_, R.fg, by simpa using R.len, fun j y z => ?_, fun j c y z => ?_, fun j k r c1 c2 as bs hjk e1 e2 e3 e4 => ?_⟩
  · rw [upd_ne (ne_of_none z h3)]; exact R.gh b o z
  · rw [upd_ne (ne_of_none z h4)]; exact R.fh b o z
  · rcases z.of_set with ⟨rfl, z, hl⟩ | ⟨hj, z⟩
    · cases z
    · exact R.dat j y z
  · rcases z.of_set with ⟨rfl, z, hl⟩ | ⟨hj, z⟩
    · cases z
      exact ⟨q, us, hp, upd_same, h3, h4, hy, h6⟩
    · obtain ⟨r, ws, g1, g2, g3⟩ := R.own j c y z
      have hr : r ≠ q := fun w => R.sep i j q b c xs y hj e z h1 (w ▸ g1)
      exact ⟨r, ws, g1, by rw [upd_ne hr]; exact g2, g3⟩
  · have f1 : ∃ c as', oAt ρ j c as' := by
      rcases e1.of_set with ⟨rfl, _, _⟩ | ⟨_, e1⟩
      · exact ⟨b, xs, e⟩
      · exact ⟨_, as, e1⟩
    have f2 : ∃ c as', oAt ρ k c as' := by
      rcases e2.of_set with ⟨rfl, _, _⟩ | ⟨_, e2⟩
      · exact ⟨b, xs, e⟩
      · exact ⟨_, bs, e2⟩
    obtain ⟨_, _, f1⟩ := f1
    obtain ⟨_, _, f2⟩ := f2
    exact R.sep j k r _ _ _ _ hjk f1 f2 e3 e4
theorem Rep.new (R : Rep K F G H σ ρ) {p : Addr} {o : HO} (hn : H p = none) : Rep K F G (upd H p o) σ ρ where
  gh := fun b u e => by rw [upd_ne (ne_of_none (R.gh b u e) hn)]; exact R.gh b u e
  fh := fun b u e => by rw [upd_ne (ne_of_none (R.fh b u e) hn)]; exact R.fh b u e
  fg := R.fg
  len := R.len
  dat := R.dat
  own := fun i b xs e => by
    obtain ⟨q, vs, h1, h2, h3⟩ := R.own i b xs e
    exact ⟨q, vs, h1, by rw [upd_ne (ne_of_none h2 hn)]; exact h2, h3⟩
  sep := R.sep
theorem Rep.gNone (R : Rep K F G H σ ρ) {p : Addr} (hn : H p = none) : G p = none := Same.free R.gh hn
theorem Rep.fNone (R : Rep K F G H σ ρ) {p : Addr} (hn : H p = none) : F.hp p = none := Same.free R.fh hn
theorem Rep.oNe (R : Rep K F G H σ ρ) {p : Addr} (hn : H p = none) : ∀ i b ys, oAt ρ i b ys → ¬ vAt σ i (.ref p) := fun i b ys e z => by
  obtain ⟨q, vs, h1, h2, _⟩ := R.own i b ys e
  have := h1.inj z
  cases this
  rw [hn] at h2; cases h2
theorem Rep.newG (R : Rep K F G H σ ρ) {p : Addr} {o : HO} (hn : H p = none) : Rep K F (upd G p o) (upd H p o) σ ρ where
  gh := Same.updB R.gh
  fh := (R.new hn).fh
  fg := fun b u e => by rw [upd_ne (ne_of_none (R.fh b u e) hn)]; exact R.fg b u e
  len := R.len
  dat := fun i x e => by
    obtain ⟨v, h1, h2⟩ := R.dat i x e
    exact ⟨v, h1, RD.mono (Same.updN (R.gNone hn)) _ _ h2⟩
  own := fun i b xs e => by
    obtain ⟨q, vs, h1, h2, h3, h4, h5, h6⟩ := R.own i b xs e
    have hq : q ≠ p := ne_of_none h2 hn
    exact ⟨q, vs, h1, by rw [upd_ne hq]; exact h2, by rw [upd_ne hq]; exact h3, h4, RDs.mono (Same.updN (R.gNone hn)) _ _ h5, h6⟩
  sep := R.sep
theorem Rep.lend (R : Rep K F G H σ ρ) {p : Addr} {o : HO} (hp : H p = some o) (gp : G p = none) (ns : ∀ i b ys, oAt ρ i b ys → ¬ vAt σ i (.ref p)) : Rep K ⟨upd F.hp p o, F.par⟩ G H σ ρ where
  gh := R.gh
  fh := fun b u e => by
    have e : upd F.hp p o b = some u := e
    unfold upd at e
    split at e <;> rename_i hb
    · cases e; rw [hb]; exact hp
    · exact R.fh b u e
  fg := fun b u e => by
    have e : upd F.hp p o b = some u := e
    unfold upd at e
    split at e <;> rename_i hb
    · rw [hb]; exact gp
    · exact R.fg b u e
  len := R.len
  dat := R.dat
  own := fun i b xs e => by
    obtain ⟨q, vs, h1, h2, h3, h4, h5⟩ := R.own i b xs e
    have hq : q ≠ p := fun z => ns i b xs e (z ▸ h1)
    exact ⟨q, vs, h1, h2, h3, by show upd F.hp p o q = none; rw [upd_ne hq]; exact h4, h5⟩
  sep := R.sep
theorem Rep.back {p : Addr} {o : HO} (R : Rep K ⟨upd F.hp p o, F.par⟩ G H σ ρ) (fp : F.hp p = none) : Rep K F G H σ ρ ∧ H p = some o ∧ G p = none ∧ ∀ i b ys, oAt ρ i b ys → ¬ vAt σ i (.ref p) := by
  refine ⟨⟨R.gh, fun b u e => R.fh b u (by show upd F.hp p o b = _; rw [upd_ne (ne_of_none e fp)]; exact e), fun b u e => R.fg b u (by show upd F.hp p o b = _; rw [upd_ne (ne_of_none e fp)]; exact e), R.len, R.dat, fun i b xs e => ?_, R.sep⟩, R.fh p o upd_same, R.fg p o upd_same, fun i b ys e z => ?_⟩
  · obtain ⟨q, vs, h1, h2, h3, h4, h5⟩ := R.own i b xs e
    refine ⟨q, vs, h1, h2, h3, ?_, h5⟩
    have h4 : upd F.hp p o q = none := h4
    by_cases hq : q = p
    · rw [hq]; exact fp
    · rw [upd_ne hq] at h4; exact h4
  · obtain ⟨q, vs, h1, h2, h3, h4, h5⟩ := R.own i b ys e
    have e : q = p := by cases h1.inj z; rfl
    have h4 : upd F.hp p o q = none := h4
    rw [e, upd_same] at h4; cases h4
end
end M
namespace M
open PySem L2
abbrev Ex := Sl → Option (RV × Sl)
abbrev Tx := Sl → Option (Bool × Sl)
abbrev Ax := Sl → Option (List RV × Sl)
inductive Fl where
  | nx | bk | ct | rt (r : RV)
abbrev Sx := Sl → Option (Fl × Sl)
def tE (K : PySem.W.Frag) (f : Ex) : TE := fun σ H Q => ∃ F G ρ r ρ', Rep K F G H σ ρ ∧ f ρ = some (r, ρ') ∧ ∀ v G' H', Same G G' → Rep K F G' H' σ ρ' → RR K F G' H' σ ρ' r v → Q v H'
def tT (K : PySem.W.Frag) (f : Tx) : TT := fun σ H Q => ∃ F G ρ b ρ', Rep K F G H σ ρ ∧ f ρ = some (b, ρ') ∧ ∀ G' H', Same G G' → Rep K F G' H' σ ρ' → Q b H'
def PEv (X : Cx) (e : Expr) (f : Ex) : Prop := PE X e (tE X.K f)
def PTv (X : Cx) (e : Expr) (f : Tx) : Prop := PT X e (tT X.K f)
def PWv (X : Cx) (e : Expr) (f : Tx) : Prop := PW X e (tT X.K f)
theorem PE.imp {X : Cx} {e : Expr} {t t' : TE} (h : PE X e t) (i : ∀ σ H Q, t' σ H Q → t σ H Q) : PE X e t' := ⟨fun pins s σ H Q I q => h.run pins s σ H Q I (i σ H Q q)⟩
theorem PT.imp {X : Cx} {e : Expr} {t t' : TT} (h : PT X e t) (i : ∀ σ H Q, t' σ H Q → t σ H Q) : PT X e t' := ⟨fun pins s σ H Q I q => h.run pins s σ H Q I (i σ H Q q)⟩
theorem PW.imp {X : Cx} {e : Expr} {t t' : TT} (h : PW X e t) (i : ∀ σ H Q, t' σ H Q → t σ H Q) : PW X e t' := ⟨fun w pins s σ H Q I q => h.run w pins s σ H Q I (i σ H Q q)⟩
theorem PS.imp {X : Cx} {e : Stmt} {t t' : TS} (h : PS X e t) (i : ∀ D σ H, t' D σ H → t D σ H) : PS X e t' := ⟨fun pins s σ H D I q => h.run pins s σ H D I (i D σ H q)⟩
theorem PSs.imp {X : Cx} {e : List Stmt} {t t' : TS} (h : PSs X e t) (i : ∀ D σ H, t' D σ H → t D σ H) : PSs X e t' := ⟨fun pins s σ H D I q => h.run pins s σ H D I (i D σ H q)⟩
theorem PA.imp {X : Cx} {e : List Expr} {t t' : TA} (h : PA X e t) (i : ∀ σ H Q, t' σ H Q → t σ H Q) : PA X e t' := ⟨fun pos pins s σ H Q I q => h.run pos pins s σ H Q I (i σ H Q q)⟩
def RV.nrm : RV → RV
  | .own xs => .d (.lst xs)
  | r => r
def RN (K : PySem.W.Frag) (G : Hp) (σ : Sg) : RV → V → Prop
  | .d x, v => RD K G x v
  | .own _, _ => False
  | .bor i, v => vAt σ i v
def pk (ρ : Sl) : RV → Option D
  | .d x => some x
  | .own _ => none
  | .bor i => match ρ[i]? with
    | some (some (.own _ xs)) => some (.lst xs)
    | _ => none
def RO (K : PySem.W.Frag) (G H : Hp) (d : D) (v : V) : Prop := RD K G d v ∨ ∃ ds p vs, d = .lst ds ∧ v = .ref p ∧ H p = some (.lst vs) ∧ RDs K G ds vs
def ROs (K : PySem.W.Frag) (G H : Hp) : List D → List V → Prop
  | [], vs => vs = []
  | d :: ds, vs => ∃ x xs, vs = x :: xs ∧ RO K G H d x ∧ ROs K G H ds xs
def RNs (K : PySem.W.Frag) (G : Hp) (σ : Sg) : List RV → List V → Prop
  | [], vs => vs = []
  | d :: ds, vs => ∃ x xs, vs = x :: xs ∧ RN K G σ d x ∧ RNs K G σ ds xs
def pks (ρ : Sl) : List RV → Option (List D)
  | [] => some []
  | r :: rs => match pk ρ r, pks ρ rs with
    | some x, some xs => some (x :: xs)
    | _, _ => none
section
variable {K : PySem.W.Frag} {F : Fm} {G G' H H' : Hp} {σ : Sg} {ρ ρ' : Sl}
theorem nrm_step (R : Rep K F G H σ ρ) {r : RV} {v : V} (h : RR K F G H σ ρ r v) : ∃ G', Same G G' ∧ Rep K F G' H σ ρ ∧ RN K G' σ r.nrm v := by
  cases r with
  | d x => exact ⟨G, Same.refl G, R, h⟩
  | own xs =>
    obtain ⟨p, vs, rfl, hp, gp, fp, hr, hs⟩ := h
    exact ⟨_, Same.updN gp, R.frzP hp gp fp hs, RDs.frzP gp hr⟩
  | bor i => exact ⟨G, Same.refl G, R, h⟩
theorem RN.mono (e : Same G G') {r : RV} {v : V} (h : RN K G σ r v) : RN K G' σ r v := by
  cases r with
  | d x => exact RD.mono e _ _ h
  | own xs => exact h
  | bor i => exact h
theorem RNs.mono (e : Same G G') : ∀ {rs : List RV} {vs : List V}, RNs K G σ rs vs → RNs K G' σ rs vs
  | [], vs, h => h
  | r :: rs, vs, ⟨x, xs, e1, e2, e3⟩ => ⟨x, xs, e1, RN.mono e e2, RNs.mono e e3⟩
theorem pk_ro (R : Rep K F G H σ ρ) {r : RV} {v : V} {d : D} (h : RN K G σ r v) (e : pk ρ r = some d) : RO K G H d v := by
  cases r with
  | d x => cases e; exact .inl h
  | own xs => cases e
  | bor i =>
    dsimp only [pk] at e
    split at e
    · rename_i b xs q
      cases e
      obtain ⟨p, vs, h1, h2, h3, h4, h5, h6⟩ := R.own i b xs q
      have := h1.inj h
      cases this
      exact .inr ⟨xs, p, vs, rfl, rfl, h2, h5⟩
    · cases e
theorem pks_ros (R : Rep K F G H σ ρ) : ∀ {rs : List RV} {vs : List V} {ds : List D}, RNs K G σ rs vs → pks ρ rs = some ds → ROs K G H ds vs
  | [], vs, ds, h, e => by cases e; exact h
  | r :: rs, vs, ds, ⟨x, xs, e1, e2, e3⟩, e => by
    unfold pks at e
    split at e
    · rename_i y ys q1 q2
      cases e
      exact ⟨x, xs, e1, pk_ro R e2 q1, pks_ros R e3 q2⟩
    · cases e
theorem RO.rd (e : Same G H) {d : D} {v : V} (h : RO K G H d v) : RD K H d v := by
  rcases h with h | ⟨ds, p, vs, rfl, rfl, h1, h2⟩
  · exact RD.mono e _ _ h
  · exact ⟨p, vs, rfl, h1, RDs.mono e _ _ h2⟩
theorem RO.lst (e : Same G H) {ds : List D} {v : V} (h : RO K G H (.lst ds) v) : ∃ p vs, v = .ref p ∧ H p = some (.lst vs) ∧ RDs K G ds vs := by
  rcases h with ⟨p, vs, h1, h2, h3⟩ | ⟨ds', p, vs, h0, h1, h2, h3⟩
  · exact ⟨p, vs, h1, e _ _ h2, h3⟩
  · cases h0
    exact ⟨p, vs, h1, h2, h3⟩
theorem RO.scr (e : Same G H) {ds : List D} {v : V} (h : RO K G H (.scr ds) v) : ∃ p vs, v = .ref p ∧ SqL K H p vs ∧ RDs K G ds vs := by
  rcases h with ⟨p, vs, h1, h2, h3⟩ | ⟨ds', p, vs, h0, h1, h2, h3⟩
  · exact ⟨p, vs, h1, e.seq h2, h3⟩
  · cases h0
theorem RO.tup (e : Same G H) {ds : List D} {v : V} (h : RO K G H (.tup ds) v) : ∃ p vs, v = .ref p ∧ SqT K H p vs ∧ RDs K G ds vs := by
  rcases h with ⟨p, vs, h1, h2, h3⟩ | ⟨ds', p, vs, h0, h1, h2, h3⟩
  · exact ⟨p, vs, h1, sameT e h2, h3⟩
  · cases h0
theorem RO.dct (e : Same G H) {ks : List L2.Key} {ds : List D} {v : V} (h : RO K G H (.dct ks ds) v) : ∃ p kvs, v = .ref p ∧ H p = some (.dK kvs) ∧ kvs.map (·.1) = ks ∧ RDs K G ds (kvs.map (·.2)) := by
  rcases h with ⟨p, vs, h1, h2, h3⟩ | ⟨ds', p, vs, h0, h1, h2, h3⟩
  · exact ⟨p, vs, h1, e _ _ h2, h3⟩
  · cases h0
theorem RO.int {i : Int} {v : V} (h : RO K G H (.int i) v) : v = .int i := by
  rcases h with h | ⟨ds', p, vs, h0, h1, h2, h3⟩
  · exact h
  · cases h0
theorem RO.str {s : List Nat} {v : V} (h : RO K G H (.str s) v) : v = .str ⟨s.toArray⟩ := by
  rcases h with h | ⟨ds', p, vs, h0, h1, h2, h3⟩
  · exact h
  · cases h0
theorem RO.bl {b : Bool} {v : V} (h : RO K G H (.bl b) v) : v = .bl b := by
  rcases h with h | ⟨ds', p, vs, h0, h1, h2, h3⟩
  · exact h
  · cases h0
theorem RO.non {v : V} (h : RO K G H .non v) : v = .non := by
  rcases h with h | ⟨ds', p, vs, h0, h1, h2, h3⟩
  · exact h
  · cases h0
end
inductive RZ (K : PySem.W.Frag) (G H : Hp) : RV → V → Hp → Prop
  | same {d v} : RD K G d v → RZ K G H (.d d) v H
  | tup {p vs ds} : H p = none → RDs K G ds vs → RZ K G H (.d (.tup ds)) (.ref p) (upd H p (.tup vs))
  | lst {p vs ds} : H p = none → RDs K G ds vs → RZ K G H (.own ds) (.ref p) (upd H p (.lst vs))
theorem rz_done {K : PySem.W.Frag} {F : Fm} {G H H' : Hp} {σ : Sg} {ρ : Sl} {z : RV} {v : V} (R : Rep K F G H σ ρ) (h : RZ K G H z v H') : ∃ G', Same G G' ∧ Rep K F G' H' σ ρ ∧ RR K F G' H' σ ρ z v := by
  cases h with
  | same h => exact ⟨G, Same.refl G, R, h⟩
  | tup hn hr => exact ⟨_, Same.updN (R.gNone hn), R.newG hn, ⟨_, _, rfl, SqT.of upd_same, RDs.mono (Same.updN (R.gNone hn)) _ _ hr⟩⟩
  | lst hn hr => exact ⟨G, Same.refl G, R.new hn, ⟨_, _, rfl, upd_same, R.gNone hn, R.fNone hn, hr, R.oNe hn⟩⟩
def bC (d : D) : Ex := fun ρ => some (.d d, ρ)
def bV (i : Nat) : Ex := fun ρ => match ρ[i]? with
  | some (some (.d x)) => some (.d x, ρ)
  | some (some (.own _ _)) => some (.bor i, ρ)
  | _ => none
def bOp (g : D → D → Option RV) (fa fb : Ex) : Ex := fun ρ => match fa ρ with
  | none => none
  | some (ra, ρ1) => match fb ρ1 with
    | none => none
    | some (rb, ρ2) => match pk ρ2 ra.nrm, pk ρ2 rb.nrm with
      | some x, some y => (g x y).map fun z => (z, ρ2)
      | _, _ => none
def bUn (g : D → Option RV) (fa : Ex) : Ex := fun ρ => match fa ρ with
  | none => none
  | some (ra, ρ1) => match pk ρ1 ra.nrm with
    | some x => (g x).map fun z => (z, ρ1)
    | none => none
def aNil : Ax := fun ρ => some ([], ρ)
def aCons (f : Ex) (g : Ax) : Ax := fun ρ => match f ρ with
  | none => none
  | some (r, ρ1) => match g ρ1 with
    | none => none
    | some (rs, ρ2) => some (r.nrm :: rs, ρ2)
def bFn (g : List D → Option RV) (fs : Ax) : Ex := fun ρ => match fs ρ with
  | none => none
  | some (rs, ρ1) => match pks ρ1 rs with
    | some ds => (g ds).map fun z => (z, ρ1)
    | none => none
def frz (r : RV) (ρ : Sl) : Option (D × Sl) := match r with
  | .d x => some (x, ρ)
  | .own xs => some (.lst xs, ρ)
  | .bor i => match ρ[i]? with
    | some (some (.own false xs)) => some (.lst xs, ρ.set i (some (.d (.lst xs))))
    | _ => none
def bFz (f : Ex) : Ex := fun ρ => match f ρ with
  | none => none
  | some (r, ρ1) => (frz r ρ1).map fun q => (.d q.1, q.2)
def bIf (c : Tx) (fa fb : Ex) : Ex := fun ρ => match c ρ with
  | none => none
  | some (b, ρ1) => if b then fa ρ1 else fb ρ1
def OpD (K : PySem.W.Frag) (r : R2) (g : D → D → Option RV) : Prop := ∀ (G H : Hp) (x y : V) (dx dy : D) (z : RV), Same G H → RO K G H dx x → RO K G H dy y → g dx dy = some z → ∀ Q : VK, (∀ v H', RZ K G H z v H' → Q v H') → r x y H Q
def UnD (K : PySem.W.Frag) (r : V → Hp → VK → Prop) (g : D → Option RV) : Prop := ∀ (G H : Hp) (x : V) (dx : D) (z : RV), Same G H → RO K G H dx x → g dx = some z → ∀ Q : VK, (∀ v H', RZ K G H z v H' → Q v H') → r x H Q
def FnD (K : PySem.W.Frag) (r : List V → Hp → VK → Prop) (g : List D → Option RV) : Prop := ∀ (G H : Hp) (xs : List V) (ds : List D) (z : RV), Same G H → ROs K G H ds xs → g ds = some z → ∀ Q : VK, (∀ v H', RZ K G H z v H' → Q v H') → r xs H Q
def tAr (K : PySem.W.Frag) (f : Ax) : TA := fun σ H Q => ∃ F G ρ rs ρ', Rep K F G H σ ρ ∧ f ρ = some (rs, ρ') ∧ ∀ vs G' H', Same G G' → Rep K F G' H' σ ρ' → RNs K G' σ rs vs → Q vs H'
def PAv (X : Cx) (es : List Expr) (f : Ax) : Prop := PA X es (tAr X.K f)
section
variable {X : Cx} {a b e : Expr} {es : List Expr} {fa fb : Ex} {pos : Pos}
theorem read2 {K : PySem.W.Frag} {g : D → D → Option RV} {r : R2} (hg : OpD K r g) {σ : Sg} {H : Hp} {Q : VK} (h : tE K (bOp g fa fb) σ H Q) : tOp r (tE K fa) (tE K fb) σ H Q := by
  obtain ⟨F, G, ρ, z, ρ', R, e, k⟩ := h
  unfold bOp at e
  split at e
  · cases e
  rename_i ra ρ1 e1
  split at e
  · cases e
  rename_i rb ρ2 e2
  split at e
  rotate_left
  · cases e
  rename_i dx dy p1 p2
  obtain ⟨z', ez, eq⟩ := Option.map_eq_some_iff.mp e
  cases eq
  refine ⟨F, G, ρ, ra, ρ1, R, e1, fun x G1 H1 s1 R1 q1 => ?_⟩
  obtain ⟨G1', t1, R1', n1⟩ := nrm_step R1 q1
  refine ⟨F, G1', ρ1, rb, _, R1', e2, fun y G2 H2 s2 R2 q2 => ?_⟩
  obtain ⟨G2', t2, R2', n2⟩ := nrm_step R2 q2
  refine hg G2' H2 x y dx dy _ R2'.gh (pk_ro R2' (n1.mono (s2.trans t2)) p1) (pk_ro R2' n2 p2) ez Q fun v H' hz => ?_
  obtain ⟨G3, t3, R3, q3⟩ := rz_done R2' hz
  exact k v G3 H' ((((s1.trans t1).trans s2).trans t2).trans t3) R3 q3
theorem read1 {K : PySem.W.Frag} {g : D → Option RV} {r : V → Hp → VK → Prop} (hg : UnD K r g) {σ : Sg} {H : Hp} {Q : VK} (h : tE K (bUn g fa) σ H Q) : tUn r (tE K fa) σ H Q := by
  obtain ⟨F, G, ρ, z, ρ', R, e, k⟩ := h
  unfold bUn at e
  split at e
  · cases e
  rename_i ra ρ1 e1
  split at e
  rotate_left
  · cases e
  rename_i dx p1
  obtain ⟨z', ez, eq⟩ := Option.map_eq_some_iff.mp e
  cases eq
  refine ⟨F, G, ρ, ra, _, R, e1, fun x G1 H1 s1 R1 q1 => ?_⟩
  obtain ⟨G1', t1, R1', n1⟩ := nrm_step R1 q1
  refine hg G1' H1 x dx _ R1'.gh (pk_ro R1' n1 p1) ez Q fun v H' hz => ?_
  obtain ⟨G3, t3, R3, q3⟩ := rz_done R1' hz
  exact k v G3 H' ((s1.trans t1).trans t3) R3 q3
theorem readA {K : PySem.W.Frag} {g : List D → Option RV} {fs : Ax} {r : List V → Hp → VK → Prop} (hg : FnD K r g) {σ : Sg} {H : Hp} {Q : VK} (h : tE K (bFn g fs) σ H Q) : tCB r (tAr K fs) σ H Q := by
  obtain ⟨F, G, ρ, z, ρ', R, e, k⟩ := h
  unfold bFn at e
  split at e
  · cases e
  rename_i rs ρ1 e1
  split at e
  rotate_left
  · cases e
  rename_i ds p1
  obtain ⟨z', ez, eq⟩ := Option.map_eq_some_iff.mp e
  cases eq
  refine ⟨F, G, ρ, rs, _, R, e1, fun vs G1 H1 s1 R1 q1 => ?_⟩
  refine hg G1 H1 vs ds _ R1.gh (pks_ros R1 q1 p1) ez Q fun v H' hz => ?_
  obtain ⟨G3, t3, R3, q3⟩ := rz_done R1 hz
  exact k v G3 H' (s1.trans t3) R3 q3
theorem av_nil : PAv X [] aNil := PA.imp pa_nil fun σ H Q h => by
  obtain ⟨F, G, ρ, rs, ρ', R, e, k⟩ := h
  cases e
  exact k [] G H (Same.refl G) R rfl
theorem av_cons {f : Ax} (he : PEv X e fa) (hs : PAv X es f) (hst : starEach (e :: es) X.env = (false, eval e X.env) :: starEach es X.env := by rfl) : PAv X (e :: es) (aCons fa f) := PA.imp (pa_cons he hs hst) fun σ H Q h => by
  obtain ⟨F, G, ρ, rs, ρ', R, q, k⟩ := h
  unfold aCons at q
  split at q
  · cases q
  rename_i ra ρ1 e1
  split at q
  · cases q
  rename_i rb ρ2 e2
  cases q
  refine ⟨F, G, ρ, ra, ρ1, R, e1, fun x G1 H1 s1 R1 q1 => ?_⟩
  obtain ⟨G1', t1, R1', n1⟩ := nrm_step R1 q1
  refine ⟨F, G1', ρ1, rb, _, R1', e2, fun ys G2 H2 s2 R2 q2 => ?_⟩
  exact k _ G2 H2 ((s1.trans t1).trans s2) R2 ⟨x, ys, rfl, n1.mono s2, q2⟩
theorem ev_var {i : Nat} {x : Str} (h : PE X (.Name x pos) (tVar i)) : PEv X (.Name x pos) (bV i) := PE.imp h fun σ H Q h => by
  obtain ⟨F, G, ρ, r, ρ', R, q, k⟩ := h
  unfold bV at q
  split at q
  · rename_i x e
    cases q
    obtain ⟨v, h1, h2⟩ := R.dat i x e
    exact ⟨v, h1, k v G H (Same.refl G) R h2⟩
  · rename_i b xs e
    cases q
    obtain ⟨p, vs, h1, h2⟩ := R.own i b xs e
    exact ⟨.ref p, h1, k _ G H (Same.refl G) R h1⟩
  · cases q
theorem ev_const {d : D} {v : V} (h : PE X e (tC v)) (hd : ∀ G, RD X.K G d v) : PEv X e (bC d) := PE.imp h fun σ H Q h => by
  obtain ⟨F, G, ρ, r, ρ', R, q, k⟩ := h
  cases q
  exact k v G H (Same.refl G) R (hd G)
theorem ev_fz (h : PEv X e fa) : PEv X e (bFz fa) := PE.imp h fun σ H Q h => by
  obtain ⟨F, G, ρ, r, ρ', R, q, k⟩ := h
  unfold bFz at q
  split at q
  · cases q
  rename_i ra ρ1 e1
  obtain ⟨⟨d, ρ2⟩, ez, eq⟩ := Option.map_eq_some_iff.mp q
  cases eq
  refine ⟨F, G, ρ, ra, ρ1, R, e1, fun x G1 H1 s1 R1 q1 => ?_⟩
  cases ra with
  | d y => cases ez; exact k x G1 H1 s1 R1 q1
  | own xs =>
    cases ez
    obtain ⟨p, vs, rfl, hp, gp, fp, hr, hs⟩ := q1
    exact k _ _ H1 (s1.trans (Same.updN gp)) (R1.frzP hp gp fp hs) (RDs.frzP gp hr)
  | bor i =>
    unfold frz at ez
    dsimp only at ez
    split at ez
    · rename_i xs e
      cases ez
      obtain ⟨p, vs, h1, h2, h3, h4⟩ := R1.frzS e
      have q1' : vAt σ i x := q1
      have := h1.inj q1'
      cases this
      exact k _ _ H1 (s1.trans h2) h3 h4
    · cases ez
theorem ev_op {op : Operator} {r : R2} {g : D → D → Option RV} (ho : OpR X (binaryOp op) r) (hg : OpD X.K r g) (ha : PEv X a fa) (hb : PEv X b fb) : PEv X (.BinOp a op b pos) (bOp g fa fb) :=
  PE.imp (pe_op ho ha hb) fun _ _ _ h => read2 hg h
theorem ev_un {op : UnaryOp} {r : V → Hp → VK → Prop} {g : D → Option RV} (ho : UnR X (unaryOp op) r) (hg : UnD X.K r g) (ha : PEv X a fa) : PEv X (.UnaryOp op a pos) (bUn g fa) :=
  PE.imp (pe_un ho ha) fun _ _ _ h => read1 hg h
theorem ev_cmp {op : CmpOp} {r : R2} {g : D → D → Option RV} (ho : OpR X (compareOp op) r) (hg : OpD X.K r g) (hm : behindInMarks op b = false) (ha : PEv X a fa) (hb : PEv X b fb) : PEv X (.Compare a [op] [b] pos) (bOp g fa fb) :=
  PE.imp (pe_cmpR ho ha hb hm) fun _ _ _ h => read2 hg h
theorem ev_ix {r : R2} {g : D → D → Option RV} (ho : IxR X r) (hg : OpD X.K r g) (hs : PlainIx b) (ha : PEv X a fa) (hb : PEv X b fb) : PEv X (.Subscript a b pos) (bOp g fa fb) :=
  PE.imp (pe_ix ho ha hb hs) fun _ _ _ h => read2 hg h
theorem OpD.or {K : PySem.W.Frag} {r r' : R2} {g g' : D → D → Option RV} (h : OpD K r g) (h' : OpD K r' g') : OpD K (fun x y H Q => r x y H Q ∨ r' x y H Q) (fun x y => match g x y with | some z => some z | none => g' x y) := by
  intro G H x y dx dy z s hx hy e Q k
  dsimp only at e
  split at e
  · rename_i w q
    cases e
    exact .inl (h G H x y dx dy z s hx hy q Q k)
  · exact .inr (h' G H x y dx dy z s hx hy e Q k)
theorem FnD.or {K : PySem.W.Frag} {r r' : List V → Hp → VK → Prop} {g g' : List D → Option RV} (h : FnD K r g) (h' : FnD K r' g') : FnD K (fun x H Q => r x H Q ∨ r' x H Q) (fun x => match g x with | some z => some z | none => g' x) := by
  intro G H x dx z s hx e Q k
  dsimp only at e
  split at e
  · rename_i w q
    cases e
    exact .inl (h G H x dx z s hx q Q k)
  · exact .inr (h' G H x dx z s hx e Q k)
end
end M
namespace M
open PySem L2
def bT (f : Ex) : Tx := fun ρ => match f ρ with
  | some (.d (.bl b), ρ1) => some (b, ρ1)
  | _ => none
def bAnd (f g : Tx) : Tx := fun ρ => match f ρ with
  | none => none
  | some (b, ρ1) => if b then g ρ1 else some (false, ρ1)
def bOr (f g : Tx) : Tx := fun ρ => match f ρ with
  | none => none
  | some (b, ρ1) => if b then some (true, ρ1) else g ρ1
def bNot (f : Tx) : Tx := fun ρ => match f ρ with
  | none => none
  | some (b, ρ1) => some (!b, ρ1)
def bOfT (f : Tx) : Ex := fun ρ => match f ρ with
  | none => none
  | some (b, ρ1) => some (.d (.bl b), ρ1)
section
variable {X : Cx} {a b e : Expr} {es : List Expr} {fa fb : Ex} {ta tb : Tx} {pos : Pos}
theorem readT {K : PySem.W.Frag} {σ : Sg} {H : Hp} {Q : Bool → Hp → Prop} (h : tT K (bT fa) σ H Q) : tE K fa σ H fun x H1 => ∃ c, x = .bl c ∧ Q c H1 := by
  obtain ⟨F, G, ρ, b, ρ', R, q, k⟩ := h
  unfold bT at q
  split at q
  · rename_i b' ρ1 e
    cases q
    exact ⟨F, G, ρ, _, _, R, e, fun v G' H' s R' r => ⟨b, r, k G' H' s R'⟩⟩
  · cases q
theorem tv_val (h : PEv X e fa) (he : ∀ whole, isTrue e X.env whole = (do let v ← whole; standAt e.pos; holding [v] (truthy v)) := by intro _; rfl) : PTv X e (bT fa) :=
  PT.imp (pt_val h he) fun σ H Q h => readT h
theorem tv_cmp {op : CmpOp} {r : R2} {g : D → D → Option RV} (ho : OpR X (compareOp op) r) (hg : OpD X.K r g) (hm : behindInMarks op b = false) (ha : PEv X a fa) (hb : PEv X b fb) : PTv X (.Compare a [op] [b] pos) (bT (bOp g fa fb)) := by
  refine PT.imp (pt_cmpR ho ha hb hm) fun σ H Q h => ?_
  exact read2 hg (Q := fun x H1 => ∃ c, x = .bl c ∧ Q c H1) (readT h)
theorem wv_one_and (h : PTv X e ta) : PWv X (.BoolOp .And [e] pos) ta := pw_and1 h
theorem wv_one_or (h : PTv X e ta) : PWv X (.BoolOp .Or [e] pos) ta := pw_or1 h
theorem wv_and {rest : List Expr} (h : PTv X a ta) (k : PWv X (.BoolOp .And (b :: rest) pos) tb) : PWv X (.BoolOp .And (a :: b :: rest) pos) (bAnd ta tb) := by
  refine PW.imp (pw_and h k) fun σ H Q h => ?_
  obtain ⟨F, G, ρ, c, ρ', R, q, k⟩ := h
  unfold bAnd at q
  split at q
  · cases q
  rename_i c1 ρ1 e1
  refine ⟨F, G, ρ, c1, ρ1, R, e1, fun G1 H1 s1 R1 => ?_⟩
  cases c1 with
  | true => exact iteT ⟨F, G1, ρ1, c, ρ', R1, q, fun G2 H2 s2 R2 => k G2 H2 (s1.trans s2) R2⟩
  | false => cases q; exact iteF (k G1 H1 s1 R1)
theorem wv_or {rest : List Expr} (h : PTv X a ta) (k : PWv X (.BoolOp .Or (b :: rest) pos) tb) : PWv X (.BoolOp .Or (a :: b :: rest) pos) (bOr ta tb) := by
  refine PW.imp (pw_or h k) fun σ H Q h => ?_
  obtain ⟨F, G, ρ, c, ρ', R, q, k⟩ := h
  unfold bOr at q
  split at q
  · cases q
  rename_i c1 ρ1 e1
  refine ⟨F, G, ρ, c1, ρ1, R, e1, fun G1 H1 s1 R1 => ?_⟩
  cases c1 with
  | true => cases q; exact iteT (k G1 H1 s1 R1)
  | false => exact iteF ⟨F, G1, ρ1, c, ρ', R1, q, fun G2 H2 s2 R2 => k G2 H2 (s1.trans s2) R2⟩
theorem tv_w (h : PWv X e ta) : PTv X e ta := PW.pt h
theorem tv_not (h : PTv X a ta) : PTv X (.UnaryOp .Not a pos) (bNot ta) := by
  refine PT.imp (pt_not h) fun σ H Q h => ?_
  obtain ⟨F, G, ρ, c, ρ', R, q, k⟩ := h
  unfold bNot at q
  split at q
  · cases q
  rename_i c1 ρ1 e1
  cases q
  exact ⟨F, G, ρ, c1, _, R, e1, fun G1 H1 s1 R1 => k G1 H1 s1 R1⟩
theorem ev_ifE (hc : PTv X e ta) (ha : PEv X a fa) (hb : PEv X b fb) : PEv X (.IfExp e a b pos) (bIf ta fa fb) := by
  refine PE.imp (pe_ifExp hc ha hb) fun σ H Q h => ?_
  obtain ⟨F, G, ρ, r, ρ', R, q, k⟩ := h
  unfold bIf at q
  split at q
  · cases q
  rename_i c1 ρ1 e1
  refine ⟨F, G, ρ, c1, ρ1, R, e1, fun G1 H1 s1 R1 => ?_⟩
  cases c1 with
  | true => exact iteT ⟨F, G1, ρ1, r, ρ', R1, q, fun v G2 H2 s2 R2 => k v G2 H2 (s1.trans s2) R2⟩
  | false => exact iteF ⟨F, G1, ρ1, r, ρ', R1, q, fun v G2 H2 s2 R2 => k v G2 H2 (s1.trans s2) R2⟩
def bAndV (f g : Ex) : Ex := fun ρ => match f ρ with
  | some (.d (.bl b), ρ1) => if b then g ρ1 else some (.d (.bl false), ρ1)
  | _ => none
def bOrV (f g : Ex) : Ex := fun ρ => match f ρ with
  | some (.d (.bl b), ρ1) => if b then some (.d (.bl true), ρ1) else g ρ1
  | _ => none
def bNotV (f : Ex) : Ex := fun ρ => match f ρ with
  | some (.d (.bl b), ρ1) => some (.d (.bl (!b)), ρ1)
  | _ => none
theorem ev_one {op} (h : PEv X a fa) : PEv X (.BoolOp op [a] pos) fa := pe_one h
theorem ev_and {rest : List Expr} (ha : PEv X a fa) (hb : PEv X (.BoolOp .And (b :: rest) pos) fb) : PEv X (.BoolOp .And (a :: b :: rest) pos) (bAndV fa fb) := by
  refine PE.imp (pe_and ha hb) fun σ H Q h => ?_
  obtain ⟨F, G, ρ, r, ρ', R, q, k⟩ := h
  unfold bAndV at q
  split at q
  · rename_i c1 ρ1 e1
    refine ⟨F, G, ρ, _, ρ1, R, e1, fun v G1 H1 s1 R1 r1 => ⟨c1, r1, ?_⟩⟩
    cases c1 with
    | true => exact iteT ⟨F, G1, ρ1, r, ρ', R1, q, fun v G2 H2 s2 R2 => k v G2 H2 (s1.trans s2) R2⟩
    | false => cases q; exact iteF (k _ G1 H1 s1 R1 rfl)
  · cases q
theorem ev_or {rest : List Expr} (ha : PEv X a fa) (hb : PEv X (.BoolOp .Or (b :: rest) pos) fb) : PEv X (.BoolOp .Or (a :: b :: rest) pos) (bOrV fa fb) := by
  refine PE.imp (pe_or ha hb) fun σ H Q h => ?_
  obtain ⟨F, G, ρ, r, ρ', R, q, k⟩ := h
  unfold bOrV at q
  split at q
  · rename_i c1 ρ1 e1
    refine ⟨F, G, ρ, _, ρ1, R, e1, fun v G1 H1 s1 R1 r1 => ⟨c1, r1, ?_⟩⟩
    cases c1 with
    | true => cases q; exact iteT (k _ G1 H1 s1 R1 rfl)
    | false => exact iteF ⟨F, G1, ρ1, r, ρ', R1, q, fun v G2 H2 s2 R2 => k v G2 H2 (s1.trans s2) R2⟩
  · cases q
theorem ev_not (ha : PEv X a fa) : PEv X (.UnaryOp .Not a pos) (bNotV fa) := by
  refine PE.imp (pe_not ha) fun σ H Q h => ?_
  obtain ⟨F, G, ρ, r, ρ', R, q, k⟩ := h
  unfold bNotV at q
  split at q
  · rename_i c1 ρ1 e1
    cases q
    exact ⟨F, G, ρ, _, _, R, e1, fun v G1 H1 s1 R1 r1 => ⟨c1, r1, k _ G1 H1 s1 R1 rfl⟩⟩
  · cases q
end
def FQ (K : PySem.W.Frag) (F : Fm) (D : Ends) (fl : Fl) (G H : Hp) (σ : Sg) (ρ : Sl) : Prop := match fl with
  | .nx => D.nx σ H
  | .bk => D.bk σ H
  | .ct => D.ct σ H
  | .rt r => ∀ v, RR K F G H σ ρ r v → D.rt v H
def tS (K : PySem.W.Frag) (f : Sx) : TS := fun D σ H => ∃ F G ρ fl ρ', Rep K F G H σ ρ ∧ f ρ = some (fl, ρ') ∧ ∀ σ' G' H', Same G G' → Rep K F G' H' σ' ρ' → FQ K F D fl G' H' σ' ρ'
def PSv (X : Cx) (st : Stmt) (f : Sx) : Prop := PS X st (tS X.K f)
def PBv (X : Cx) (st : List Stmt) (f : Sx) : Prop := PSs X st (tS X.K f)
def sNx : Sx := fun ρ => some (.nx, ρ)
def sBk : Sx := fun ρ => some (.bk, ρ)
def sCt : Sx := fun ρ => some (.ct, ρ)
def sSeq (f g : Sx) : Sx := fun ρ => match f ρ with
  | some (.nx, ρ1) => g ρ1
  | o => o
def sIf (c : Tx) (f g : Sx) : Sx := fun ρ => match c ρ with
  | none => none
  | some (b, ρ1) => if b then f ρ1 else g ρ1
def sDrop (f : Ex) : Sx := fun ρ => match f ρ with
  | none => none
  | some (_, ρ1) => some (.nx, ρ1)
def sRet (f : Ex) : Sx := fun ρ => match f ρ with
  | none => none
  | some (r, ρ1) => some (.rt r, ρ1)
def sRetN : Sx := fun ρ => some (.rt (.d .non), ρ)
def putR (i : Nat) (r : RV) (ρ : Sl) : Option Sl := match r with
  | .d x => some (ρ.set i (some (.d x)))
  | .own xs => some (ρ.set i (some (.own false xs)))
  | .bor _ => none
def sSet (i : Nat) (f : Ex) : Sx := fun ρ => match f ρ with
  | none => none
  | some (r, ρ1) => (putR i r ρ1).map fun ρ2 => (.nx, ρ2)
def sPar (i j : Nat) (f g : Ex) : Sx := fun ρ => match f ρ with
  | none => none
  | some (r, ρ1) => match g ρ1 with
    | none => none
    | some (q, ρ2) => match putR i r ρ2 with
      | none => none
      | some ρ3 => (putR j q ρ3).map fun ρ4 => (.nx, ρ4)
section
variable {X : Cx} {e : Expr} {st : Stmt} {rest : List Stmt} {fa fb : Ex} {f g : Sx} {pos : Pos} {tc : Tx}
theorem sv_pass : PSv X (.Pass pos) sNx := PS.imp ps_pass fun D σ H h => by
  obtain ⟨F, G, ρ, fl, ρ', R, q, k⟩ := h
  cases q; exact k σ G H (Same.refl G) R
theorem sv_break : PSv X (.Break pos) sBk := PS.imp ps_break fun D σ H h => by
  obtain ⟨F, G, ρ, fl, ρ', R, q, k⟩ := h
  cases q; exact k σ G H (Same.refl G) R
theorem sv_cont : PSv X (.Continue pos) sCt := PS.imp ps_continue fun D σ H h => by
  obtain ⟨F, G, ρ, fl, ρ', R, q, k⟩ := h
  cases q; exact k σ G H (Same.refl G) R
theorem bv_nil : PBv X [] sNx := PSs.imp pss_nil fun D σ H h => by
  obtain ⟨F, G, ρ, fl, ρ', R, q, k⟩ := h
  cases q; exact k σ G H (Same.refl G) R
theorem FQ.nx {K : PySem.W.Frag} {F : Fm} {D : Ends} {n : St → Hp → Prop} {fl : Fl} {G H : Hp} {σ : Sg} {ρ : Sl} (hn : fl ≠ .nx) (h : FQ K F D fl G H σ ρ) : FQ K F { D with nx := n } fl G H σ ρ := by
  cases fl with
  | nx => exact absurd rfl hn
  | bk => exact h
  | ct => exact h
  | rt r => exact h
theorem bv_cons (h : PSv X st f) (k : PBv X rest g) : PBv X (st :: rest) (sSeq f g) := PSs.imp (pss_cons h k) fun D σ H h => by
  obtain ⟨F, G, ρ, fl, ρ', R, q, k⟩ := h
  unfold sSeq at q
  split at q
  · rename_i ρ1 e1
    refine ⟨F, G, ρ, .nx, ρ1, R, e1, fun σ1 G1 H1 s1 R1 => ?_⟩
    exact ⟨F, G1, ρ1, fl, ρ', R1, q, fun σ2 G2 H2 s2 R2 => k σ2 G2 H2 (s1.trans s2) R2⟩
  · rename_i o ho
    refine ⟨F, G, ρ, fl, ρ', R, q, fun σ1 G1 H1 s1 R1 => FQ.nx (fun z => ?_) (k σ1 G1 H1 s1 R1)⟩
    subst z
    exact ho _ q
theorem bv_one (h : PSv X st f) : PBv X [st] f := pss_one h
theorem sv_if {a b : List Stmt} (hc : PTv X e tc) (ha : PBv X a f) (hb : PBv X b g) : PSv X (.If e a b pos) (sIf tc f g) := PS.imp (ps_if hc ha hb) fun D σ H h => by
  obtain ⟨F, G, ρ, fl, ρ', R, q, k⟩ := h
  unfold sIf at q
  split at q
  · cases q
  rename_i c1 ρ1 e1
  refine ⟨F, G, ρ, c1, ρ1, R, e1, fun G1 H1 s1 R1 => ?_⟩
  cases c1 with
  | true => exact iteT ⟨F, G1, ρ1, fl, ρ', R1, q, fun σ2 G2 H2 s2 R2 => k σ2 G2 H2 (s1.trans s2) R2⟩
  | false => exact iteF ⟨F, G1, ρ1, fl, ρ', R1, q, fun σ2 G2 H2 s2 R2 => k σ2 G2 H2 (s1.trans s2) R2⟩
theorem sv_expr (h : PEv X e fa) (hs : swapsWith e none pos.line X.env = pure false := by rfl) : PSv X (.Expr e pos) (sDrop fa) := PS.imp (ps_expr h hs) fun D σ H h => by
  obtain ⟨F, G, ρ, fl, ρ', R, q, k⟩ := h
  unfold sDrop at q
  split at q
  · cases q
  rename_i r ρ1 e1
  cases q
  exact ⟨F, G, ρ, r, _, R, e1, fun v G1 H1 s1 R1 _ => k σ G1 H1 s1 R1⟩
theorem sv_ret (h : PEv X e fa) : PSv X (.Return (some e) pos) (sRet fa) := PS.imp (ps_ret h) fun D σ H h => by
  obtain ⟨F, G, ρ, fl, ρ', R, q, k⟩ := h
  unfold sRet at q
  split at q
  · cases q
  rename_i r ρ1 e1
  cases q
  exact ⟨F, G, ρ, r, _, R, e1, fun v G1 H1 s1 R1 q => k σ G1 H1 s1 R1 v q⟩
theorem sv_retN : PSv X (.Return none pos) sRetN := PS.imp ps_retN fun D σ H h => by
  obtain ⟨F, G, ρ, fl, ρ', R, q, k⟩ := h
  cases q
  exact k σ G H (Same.refl G) R .non rfl
theorem Rep.put {K : PySem.W.Frag} {F : Fm} {G H : Hp} {σ : Sg} {ρ ρ' : Sl} {i : Nat} {r : RV} {v : V} (R : Rep K F G H σ ρ) (h : RR K F G H σ ρ r v) (e : putR i r ρ = some ρ') : Rep K F G H (σ.set i (some v)) ρ' := by
  cases r with
  | d x => cases e; exact R.setD h
  | own xs => cases e; exact R.setO h
  | bor i => cases e
theorem sv_set {i : Nat} {x : Str} {pos' : Pos} (h : PEv X e fa) (hp : PS X (.Assign [.Name x pos'] e pos) (tAsg (tE X.K fa) (gName i))) : PSv X (.Assign [.Name x pos'] e pos) (sSet i fa) := PS.imp hp fun D σ H h => by
  obtain ⟨F, G, ρ, fl, ρ', R, q, k⟩ := h
  unfold sSet at q
  split at q
  · cases q
  rename_i r ρ1 e1
  obtain ⟨ρ2, e2, eq⟩ := Option.map_eq_some_iff.mp q
  cases eq
  exact ⟨F, G, ρ, r, _, R, e1, fun v G1 H1 s1 R1 q => k _ G1 H1 s1 (R1.put q e2)⟩
end
end M
namespace M
open PySem L2
theorem RZ.mono {K : PySem.W.Frag} {G G' H H' : Hp} {z : RV} {v : V} (s : Same G G') (h : RZ K G H z v H') : RZ K G' H z v H' := by
  cases h with
  | same h => exact .same (RD.mono s _ _ h)
  | tup hn hr => exact .tup hn (RDs.mono s _ _ hr)
  | lst hn hr => exact .lst hn (RDs.mono s _ _ hr)
theorem RR.lent {K : PySem.W.Frag} {F : Fm} {G H : Hp} {σ : Sg} {ρ : Sl} {p : Addr} {o : HO} {r : RV} {v : V} (fp : F.hp p = none) (h : RR K ⟨upd F.hp p o, F.par⟩ G H σ ρ r v) : RR K F G H σ ρ r v ∧ (∀ xs, r = .own xs → v ≠ .ref p) := by
  cases r with
  | d x => exact ⟨h, fun _ e => nomatch e⟩
  | bor i => exact ⟨h, fun _ e => nomatch e⟩
  | own xs =>
    obtain ⟨q, vs, rfl, hp, gp, hq, hr, hs⟩ := h
    have hq : upd F.hp p o q = none := hq
    by_cases e : q = p
    · rw [e, upd_same] at hq; cases hq
    · rw [upd_ne e] at hq
      exact ⟨⟨q, vs, rfl, hp, gp, hq, hr, hs⟩, fun _ _ z => e (by cases z; rfl)⟩
theorem RR.put {K : PySem.W.Frag} {F : Fm} {G H : Hp} {σ : Sg} {ρ ρ' : Sl} {i : Nat} {r q : RV} {v w : V} (e : putR i r ρ = some ρ') (hq : RR K F G H σ ρ q w) (hn : ∀ j, q ≠ .bor j) (hd : ∀ xs ys, r = .own xs → q = .own ys → v ≠ w) : RR K F G H (σ.set i (some v)) ρ' q w := by
  cases q with
  | d x => exact hq
  | bor j => exact absurd rfl (hn j)
  | own ys =>
    obtain ⟨p, vs, rfl, hp, gp, fp, hr, hs⟩ := hq
    refine ⟨p, vs, rfl, hp, gp, fp, hr, fun j b zs h1 h2 => ?_⟩
    cases r with
    | bor j => cases e
    | d x =>
      cases e
      rcases h1.of_set with ⟨_, z, _⟩ | ⟨hj, h1⟩
      · cases z
      rcases h2.of_set with ⟨z, _, _⟩ | ⟨_, h2⟩
      · exact hj z
      exact hs j b zs h1 h2
    | own xs =>
      cases e
      rcases h2.of_set with ⟨z1, z2, _⟩ | ⟨hj, h2⟩
      · cases z2
        exact hd xs ys rfl rfl rfl
      · rcases h1.of_set with ⟨z, _, _⟩ | ⟨_, h1⟩
        · exact hj z
        · exact hs j b zs h1 h2
section
variable {X : Cx}
theorem read_par {K : PySem.W.Frag} {i j : Nat} {fa fb : Ex} {D : Ends} {σ : Sg} {H : Hp} (h : tS K (sPar i j fa fb) D σ H) : tPar i j (tCons (tE K fa) (tCons (tE K fb) tNil)) D σ H := by
  obtain ⟨F, G, ρ, fl, ρ', R, q, k⟩ := h
  unfold sPar at q
  split at q
  · cases q
  rename_i r ρ1 e1
  split at q
  · cases q
  rename_i u ρ2 e2
  split at q
  · cases q
  rename_i ρ3 e3
  obtain ⟨ρ4, e4, eq⟩ := Option.map_eq_some_iff.mp q
  cases eq
  refine ⟨F, G, ρ, r, ρ1, R, e1, fun v G1 H1 s1 R1 q1 => ?_⟩
  have hu : ∀ j, u ≠ .bor j := fun j z => by subst z; cases e4
  cases r with
  | bor i => cases e3
  | d x =>
    refine ⟨F, G1, ρ1, u, ρ2, R1, e2, fun w G2 H2 s2 R2 q2 => ⟨v, w, rfl, ?_⟩⟩
    have q1' : RR K F G2 H2 σ ρ2 (.d x) v := RD.mono s2 _ _ q1
    exact k _ G2 H2 (s1.trans s2) ((R2.put q1' e3).put (RR.put e3 q2 hu fun _ _ z => nomatch z) e4)
  | own xs =>
    obtain ⟨p, vs, rfl, hp, gp, fp, hr, hs⟩ := q1
    refine ⟨⟨upd F.hp p (.lst vs), F.par⟩, G1, ρ1, u, ρ2, R1.lend hp gp hs, e2, fun w G2 H2 s2 R2 q2 => ⟨.ref p, w, rfl, ?_⟩⟩
    obtain ⟨R2', hp2, gp2, ns2⟩ := R2.back fp
    obtain ⟨q2', ne⟩ := q2.lent fp
    have q1' : RR K F G2 H2 σ ρ2 (.own xs) (.ref p) := ⟨p, vs, rfl, hp2, gp2, fp, RDs.mono s2 _ _ hr, ns2⟩
    exact k _ G2 H2 (s1.trans s2) ((R2'.put q1' e3).put (RR.put e3 q2' hu fun _ ys _ z z2 => ne ys z z2.symm) e4)
def dsOf : List RV → Option (List D)
  | [] => some []
  | .d x :: rs => (dsOf rs).map fun xs => x :: xs
  | _ => none
theorem ds_of {K : PySem.W.Frag} {G : Hp} {σ : Sg} : ∀ {rs : List RV} {vs : List V} {ds : List D}, RNs K G σ rs vs → dsOf rs = some ds → RDs K G ds vs
  | [], vs, ds, h, e => by cases e; exact h
  | .d x :: rs, vs, ds, ⟨v, us, e1, e2, e3⟩, e => by
    obtain ⟨xs, h1, h2⟩ := Option.map_eq_some_iff.mp e
    subst h2
    exact ⟨v, us, e1, e2, ds_of e3 h1⟩
  | .own _ :: _, _, _, _, e => by cases e
  | .bor _ :: _, _, _, _, e => by cases e
def bMu (i : Nat) (g : List D → List D → Option (List D × D)) (fs : Ax) : Ex := fun ρ => match ρ[i]? with
  | some (some (.own _ _)) => match fs ρ with
    | none => none
    | some (rs, ρ1) => match ρ1[i]? with
      | some (some (.own b xs)) => match dsOf rs with
        | none => none
        | some ds => match g xs ds with
          | none => none
          | some (ys, z) => some (.d z, ρ1.set i (some (.own b ys)))
      | _ => none
  | _ => none
def MuD (K : PySem.W.Frag) (r : V → List V → Hp → VK → Prop) (g : List D → List D → Option (List D × D)) : Prop :=
  ∀ (G H : Hp) (p : Addr) (vs us : List V) (xs ds ys : List D) (z : D), Same G H → H p = some (.lst vs) → G p = none → RDs K G xs vs → RDs K G ds us → g xs ds = some (ys, z) →
    ∀ Q : VK, (∀ ws v, RDs K G ys ws → RD K G z v → Q v (upd H p (.lst ws))) → r (.ref p) us H Q
theorem read_mu {K : PySem.W.Frag} {i : Nat} {g : List D → List D → Option (List D × D)} {fs : Ax} {r : V → List V → Hp → VK → Prop} (hg : MuD K r g) {σ : Sg} {H : Hp} {Q : VK} (h : tE K (bMu i g fs) σ H Q) :
    tBM K "list" r (tVar i) (tAr K fs) σ H Q := by
  obtain ⟨F, G, ρ, z, ρ', R, e, k⟩ := h
  unfold bMu at e
  split at e
  rotate_left
  · cases e
  rename_i b0 xs0 o0
  split at e
  · cases e
  rename_i rs ρ1 e1
  split at e
  rotate_left
  · cases e
  rename_i b xs o1
  split at e
  · cases e
  rename_i ds e2
  split at e
  · cases e
  rename_i ys z e3
  cases e
  obtain ⟨p, vs0, h1, h2, h3, h4, h5, h6⟩ := R.own i b0 xs0 o0
  refine ⟨.ref p, h1, .inl ⟨rfl, vs0, SqL.of h2⟩, F, G, ρ, rs, ρ1, R, e1, fun us G1 H1 s1 R1 q1 => ?_⟩
  obtain ⟨p', vs, g1, g2, g3, g4, g5, g6⟩ := R1.own i b xs o1
  have ep : p' = p := by cases g1.inj h1; rfl
  subst ep
  refine hg G1 H1 p' vs us xs ds ys z R1.gh g2 g3 g5 (ds_of q1 e2) e3 Q fun ws v hw hv => ?_
  exact k v G1 _ s1 (R1.wr o1 g1 hw) hv
def bMu0 (i : Nat) (g : List D → List D → Option (List D × D)) : Ex := bMu i g aNil
theorem read_mu0 {K : PySem.W.Frag} {i : Nat} {g : List D → List D → Option (List D × D)} {r : V → List V → Hp → VK → Prop} (hg : MuD K r g) {σ : Sg} {H : Hp} {Q : VK} (h : tE K (bMu0 i g) σ H Q) :
    tBM0 K "list" r (tVar i) σ H Q := by
  obtain ⟨F, G, ρ, z, ρ', R, e, k⟩ := h
  unfold bMu0 bMu at e
  split at e
  rotate_left
  · cases e
  rename_i b0 xs0 o0
  dsimp only [aNil] at e
  split at e
  rotate_left
  · cases e
  rename_i b xs o1
  dsimp only [dsOf] at e
  split at e
  · cases e
  rename_i ys z e3
  cases e
  obtain ⟨p, vs, h1, h2, h3, h4, h5, h6⟩ := R.own i b xs o1
  refine ⟨.ref p, h1, .inl ⟨rfl, vs, SqL.of h2⟩, ?_⟩
  refine hg G H p vs [] xs [] ys z R.gh h2 h3 h5 rfl e3 Q fun ws v hw hv => ?_
  exact k v G _ (Same.refl G) (R.wr o1 h1 hw) hv
def sPut (i : Nat) (fk fe : Ex) : Sx := fun ρ => match bFz fe ρ with
  | some (.d x, ρ1) => match ρ1[i]? with
    | some (some (.own _ _)) => match fk ρ1 with
      | some (.d (.int k), ρ2) => match ρ2[i]? with
        | some (some (.own b xs)) => match ixN xs.length k with
          | some j => some (.nx, ρ2.set i (some (.own b (xs.set j x))))
          | none => none
        | _ => none
      | _ => none
    | _ => none
  | _ => none
theorem read_put {K : PySem.W.Frag} {i : Nat} {fk fe : Ex} {D : Ends} {σ : Sg} {H : Hp} (h : tS K (sPut i fk fe) D σ H) : tAsg (tE K (bFz fe)) (gSub (tVar i) (tE K fk) rSetL) D σ H := by
  obtain ⟨F, G, ρ, fl, ρ', R, q, kk⟩ := h
  unfold sPut at q
  split at q
  rotate_left
  · cases q
  rename_i x ρ1 e1
  split at q
  rotate_left
  · cases q
  rename_i b0 xs0 o0
  split at q
  rotate_left
  · cases q
  rename_i k ρ2 e2
  split at q
  rotate_left
  · cases q
  rename_i b xs o1
  split at q
  rotate_left
  · cases q
  rename_i j e3
  cases q
  refine ⟨F, G, ρ, _, ρ1, R, e1, fun v G1 H1 s1 R1 q1 => ?_⟩
  obtain ⟨p, vs0, h1, h2, h3, h4, h5, h6⟩ := R1.own i b0 xs0 o0
  refine ⟨.ref p, h1, F, G1, ρ1, _, ρ2, R1, e2, fun w G2 H2 s2 R2 q2 => ?_⟩
  obtain ⟨p', vs, g1, g2, g3, g4, g5, g6⟩ := R2.own i b xs o1
  have ep : p' = p := by cases g1.inj h1; rfl
  subst ep
  have q1 : RD K G1 x v := q1
  cases (show w = .int k from q2)
  refine ⟨p', vs, k, j, rfl, rfl, g2, by rw [g5.length]; exact e3, ?_⟩
  exact kk σ G2 _ (s1.trans s2) (R2.wr o1 g1 (RDs.set (RD.mono s2 _ _ q1) j g5))
end
abbrev Bx := D → Sl → Option Sl
abbrev Ix := Sl → Option (List D × Sl)
def forGo (bind : Bx) (body : Sx) : List D → Sl → Option (Fl × Sl)
  | [], ρ => some (.nx, ρ)
  | x :: xs, ρ => match bind x ρ with
    | none => none
    | some ρ1 => match body ρ1 with
      | none => none
      | some (.nx, ρ2) => forGo bind body xs ρ2
      | some (.ct, ρ2) => forGo bind body xs ρ2
      | some (.bk, ρ2) => some (.nx, ρ2)
      | some (.rt r, ρ2) => some (.rt r, ρ2)
def sFor (it : Ix) (bind : Bx) (body : Sx) : Sx := fun ρ => match it ρ with
  | none => none
  | some (xs, ρ1) => forGo bind body xs ρ1
def whileN (c : Tx) (body : Sx) : Nat → Sl → Option (Fl × Sl)
  | 0, _ => none
  | n + 1, ρ => match c ρ with
    | none => none
    | some (b, ρ1) => if b then match body ρ1 with
      | none => none
      | some (.nx, ρ2) => whileN c body n ρ2
      | some (.ct, ρ2) => whileN c body n ρ2
      | some (.bk, ρ2) => some (.nx, ρ2)
      | some (.rt r, ρ2) => some (.rt r, ρ2)
      else some (.nx, ρ1)
def sWhile (n : Nat) (c : Tx) (body : Sx) : Sx := whileN c body n
def GD (K : PySem.W.Frag) (g : TG) (bind : Bx) (is : List Nat) : Prop := ∀ (F : Fm) (G H : Hp) (σ : Sg) (ρ ρ' : Sl) (x : D) (v : V) (Q : St → Hp → Prop), Rep K F G H σ ρ → RD K G x v → bind x ρ = some ρ' →
  (∀ σ', Rep K F G H σ' ρ' → (∀ vs, (∀ i ∈ is, i ∈ vs) → wipe σ' vs = wipe σ vs) → Q σ' H) → g v σ H Q
theorem wipe_get (σ : Sg) (vs : List Nat) (j : Nat) : (wipe σ vs)[j]? = if j ∈ vs ∧ j < σ.length then some none else σ[j]? := by
  induction vs with
  | nil => simp [wipe]
  | cons v vs ih =>
    unfold wipe
    by_cases hv : v = j
    · subst hv
      by_cases hl : v < σ.length
      · rw [List.getElem?_set_self (by rw [wipe_length]; exact hl)]; simp [hl]
      · rw [List.getElem?_eq_none (by rw [List.length_set, wipe_length]; omega)]
        rw [if_neg (fun z => hl z.2), List.getElem?_eq_none (by omega)]
    · rw [List.getElem?_set_ne hv, ih]
      simp only [List.mem_cons, Ne.symm hv, false_or]
theorem wipe_set {σ : Sg} {vs : List Nat} {i : Nat} {o : Option V} (h : i ∈ vs) : wipe (σ.set i o) vs = wipe σ vs := by
  refine List.ext_getElem? fun j => ?_
  rw [wipe_get, wipe_get, List.length_set]
  by_cases hj : j ∈ vs ∧ j < σ.length
  · rw [if_pos hj, if_pos hj]
  · rw [if_neg hj, if_neg hj]
    by_cases e : i = j
    · subst e
      have hl : ¬ i < σ.length := fun z => hj ⟨h, z⟩
      rw [List.getElem?_eq_none (by rw [List.length_set]; omega), List.getElem?_eq_none (by omega)]
    · rw [List.getElem?_set_ne e]
theorem wipe_wipe {σ : Sg} {vs us : List Nat} (h : ∀ i ∈ us, i ∈ vs) : wipe (wipe σ us) vs = wipe σ vs := by
  refine List.ext_getElem? fun j => ?_
  rw [wipe_get, wipe_get, wipe_get, wipe_length]
  by_cases hj : j ∈ vs ∧ j < σ.length
  · rw [if_pos hj, if_pos hj]
  · rw [if_neg hj, if_neg hj]
    by_cases e : j ∈ us ∧ j < σ.length
    · exact absurd ⟨h j e.1, e.2⟩ hj
    · rw [if_neg e]
def bName (i : Nat) : Bx := fun x ρ => some (ρ.set i (some (.d x)))
def bNames : List Nat → List D → Sl → Option Sl
  | [], [], ρ => some ρ
  | i :: is, x :: xs, ρ => bNames is xs (ρ.set i (some (.d x)))
  | _, _, _ => none
def bTup (is : List Nat) : Bx := fun x ρ => match x with
  | .tup xs => bNames is xs ρ
  | _ => none
def gNames : List Nat → TGs
  | [] => gNil
  | i :: is => gCons (gName i) (gNames is)
theorem gd_name {K : PySem.W.Frag} {i : Nat} : GD K (gName i) (bName i) [i] := fun F G H σ ρ ρ' x v Q R h e k => by
  cases e
  exact k _ (R.setD h) fun vs hv => wipe_set (hv i (List.mem_singleton_self i))
theorem gd_names {K : PySem.W.Frag} {F : Fm} {G H : Hp} : ∀ (is : List Nat) (σ : Sg) (ρ ρ' : Sl) (xs : List D) (vs : List V) (Q : St → Hp → Prop), Rep K F G H σ ρ → RDs K G xs vs → bNames is xs ρ = some ρ' → (∀ σ', Rep K F G H σ' ρ' → (∀ vs, (∀ i ∈ is, i ∈ vs) → wipe σ' vs = wipe σ vs) → Q σ' H) → gNames is vs σ H Q
  | [], σ, ρ, ρ', [], vs, Q, R, h, e, k => by cases e; exact ⟨h, k σ R fun _ _ => rfl⟩
  | [], σ, ρ, ρ', x :: xs, vs, Q, R, h, e, k => by cases e
  | i :: is, σ, ρ, ρ', [], vs, Q, R, h, e, k => by cases e
  | i :: is, σ, ρ, ρ', x :: xs, vs, Q, R, ⟨v, us, e1, e2, e3⟩, e, k =>
    ⟨v, us, e1, gd_names is (σ.set i (some v)) _ ρ' xs us Q (R.setD e2) e3 e fun σ' R' hw => k σ' R' fun ws hi => (hw ws fun j hj => hi j (List.mem_cons_of_mem _ hj)).trans (wipe_set (hi i List.mem_cons_self))⟩
theorem gd_tup {K : PySem.W.Frag} {n : Nat} {is : List Nat} (hn : is.length = n) : GD K (gTup K n (gNames is)) (bTup is) is := fun F G H σ ρ ρ' x v Q R h e k => by
  unfold bTup at e
  split at e
  · rename_i xs
    obtain ⟨a, vs, e1, e2, e3⟩ := h
    refine ⟨a, vs, e1, sameT R.gh e2, ?_, gd_names is σ ρ ρ' xs vs Q R e3 e k⟩
    rw [e3.length]
    have : ∀ (is : List Nat) (xs : List D) (ρ ρ' : Sl), bNames is xs ρ = some ρ' → xs.length = is.length := by
      intro is
      induction is with
      | nil => intro xs ρ ρ' e; cases xs with
        | nil => rfl
        | cons x xs => cases e
      | cons i is ih => intro xs ρ ρ' e; cases xs with
        | nil => cases e
        | cons x xs => simp [ih xs _ _ e]
    rw [this is xs ρ ρ' e, hn]
  · cases e
def JOk (K : PySem.W.Frag) (J : It) (G : Hp) (xs : List D) : Prop := ∀ (H : Hp) (i : Nat), Same G H → (i < xs.length → J.go i H) ∧ (xs.length ≤ i → J.stop i H) ∧ ∀ v H' x, J.yld i H v H' → xs[i]? = some x → RZ K G H (.d x) v H'
def ItD (K : PySem.W.Frag) (wi : TI) (it : Ix) : Prop := ∀ (σ : Sg) (H : Hp) (R : It → Hp → Prop),
  (∃ F G ρ xs ρ', Rep K F G H σ ρ ∧ it ρ = some (xs, ρ') ∧ ∀ J H1 G1, Same G G1 → Rep K F G1 H1 σ ρ' → JOk K J G1 xs → R J H1) → wi σ H R
def tIt (K : PySem.W.Frag) (it : Ix) : TI := fun σ H R => ∃ F G ρ xs ρ', Rep K F G H σ ρ ∧ it ρ = some (xs, ρ') ∧ ∀ J H1 G1, Same G G1 → Rep K F G1 H1 σ ρ' → JOk K J G1 xs → R J H1
def tG (K : PySem.W.Frag) (bind : Bx) (is : List Nat) : TG := fun v σ H Q => ∃ F G ρ x ρ', Rep K F G H σ ρ ∧ RD K G x v ∧ bind x ρ = some ρ' ∧ ∀ σ', Rep K F G H σ' ρ' → (∀ vs, (∀ i ∈ is, i ∈ vs) → wipe σ' vs = wipe σ vs) → Q σ' H
theorem itd_self {K : PySem.W.Frag} {it : Ix} : ItD K (tIt K it) it := fun σ H R h => h
theorem gd_self {K : PySem.W.Frag} {bind : Bx} {is : List Nat} : GD K (tG K bind is) bind is := fun F G H σ ρ ρ' x v Q R h e k => ⟨F, G, ρ, x, ρ', R, h, e, k⟩
def PIv (X : Cx) (tg iter : Expr) (it : Ix) : Prop := PI X tg iter (tIt X.K it)
def PGv (X : Cx) (tg : Expr) (bind : Bx) (is : List Nat) : Prop := PG X tg (tG X.K bind is)
theorem iv_of {X : Cx} {tg iter : Expr} {wi : TI} {it : Ix} (h : PI X tg iter wi) (d : ItD X.K wi it) : PIv X tg iter it := ⟨fun pins s σ H R I q => h.run pins s σ H R I (d σ H R q)⟩
theorem gv_of {X : Cx} {tg : Expr} {g : TG} {bind : Bx} {is : List Nat} (h : PG X tg g) (d : GD X.K g bind is) : PGv X tg bind is :=
  ⟨fun pins s σ H v u Q I r ⟨F, G, ρ, x, ρ', R, hx, e, k⟩ => h.run pins s σ H v u Q I r (d F G H σ ρ ρ' x v Q R hx e k)⟩
theorem drop_of {α : Type} {xs : List α} {i : Nat} (h : i < xs.length) : ∃ x, xs[i]? = some x ∧ xs.drop i = x :: xs.drop (i + 1) :=
  ⟨xs[i], by simp [h], List.drop_eq_getElem_cons h⟩
theorem read_for {K : PySem.W.Frag} {wi : TI} {g : TG} {it : Ix} {bind : Bx} {body : Sx} {is : List Nat} (hi : ItD K wi it) (hg : GD K g bind is) {D : Ends} {σ : Sg} {H : Hp} (h : tS K (sFor it bind body) D σ H) : tFor wi g (tS K body) D σ H := by
  obtain ⟨F, G, ρ, fl, ρ', R, q, k⟩ := h
  unfold sFor at q
  split at q
  · cases q
  rename_i xs ρ1 e1
  refine hi σ H _ ⟨F, G, ρ, xs, ρ1, R, e1, fun J H1 G1 s1 R1 hj => ?_⟩
  refine ⟨fun i m σ' H' => m = xs.length - i ∧ i ≤ xs.length ∧ ∃ G2 ρ2, Same G1 G2 ∧ Rep K F G2 H' σ' ρ2 ∧ forGo bind body (xs.drop i) ρ2 = some (fl, ρ'), ⟨xs.length, rfl, Nat.zero_le _, G1, ρ1, Same.refl _, R1, q⟩, ?_⟩
  rintro i m σ' H' ⟨rfl, hi, G2, ρ2, s2, R2, e2⟩
  obtain ⟨j1, j2, j3⟩ := hj H' i (s2.trans R2.gh)
  by_cases hlt : i < xs.length
  · refine .inr ⟨j1 hlt, _, fun σ3 H3 w => ⟨xs.length - (i + 1), by omega, w⟩, fun v H3 y => ?_⟩
    obtain ⟨x, hx, hd⟩ := drop_of hlt
    have z := (j3 v H3 x y hx).mono s2
    obtain ⟨G3, s3, R3, q3⟩ := rz_done R2 z
    rw [hd] at e2
    unfold forGo at e2
    split at e2
    · cases e2
    rename_i ρ3 e3
    refine hg F G3 H3 σ' ρ2 ρ3 x v _ R3 q3 e3 fun σ4 R4 _ => ?_
    split at e2
    · cases e2
    · rename_i ρ4 e4
      exact ⟨F, G3, ρ3, .nx, ρ4, R4, e4, fun σ5 G5 H5 s5 R5 => ⟨rfl, hlt, G5, ρ4, (s2.trans s3).trans s5, R5, e2⟩⟩
    · rename_i ρ4 e4
      exact ⟨F, G3, ρ3, .ct, ρ4, R4, e4, fun σ5 G5 H5 s5 R5 => ⟨rfl, hlt, G5, ρ4, (s2.trans s3).trans s5, R5, e2⟩⟩
    · rename_i ρ4 e4
      cases e2
      exact ⟨F, G3, ρ3, .bk, _, R4, e4, fun σ5 G5 H5 s5 R5 => k σ5 G5 H5 (((s1.trans s2).trans s3).trans s5) R5⟩
    · rename_i r ρ4 e4
      cases e2
      exact ⟨F, G3, ρ3, .rt r, _, R4, e4, fun σ5 G5 H5 s5 R5 => k σ5 G5 H5 (((s1.trans s2).trans s3).trans s5) R5⟩
  · refine .inl ⟨j2 (by omega), ?_⟩
    rw [List.drop_eq_nil_of_le (by omega)] at e2
    cases e2
    exact k σ' G2 H' (s1.trans s2) R2
theorem read_while {K : PySem.W.Frag} {n : Nat} {c : Tx} {body : Sx} {D : Ends} {σ : Sg} {H : Hp} (h : tS K (sWhile n c body) D σ H) : tWhile (tT K c) (tS K body) D σ H := by
  obtain ⟨F, G, ρ, fl, ρ', R, q, k⟩ := h
  unfold sWhile at q
  refine ⟨fun m σ' H' => ∃ G2 ρ2, Same G G2 ∧ Rep K F G2 H' σ' ρ2 ∧ whileN c body m ρ2 = some (fl, ρ'), ⟨n, G, ρ, Same.refl _, R, q⟩, ?_⟩
  rintro m σ' H' ⟨G2, ρ2, s2, R2, e2⟩
  cases m with
  | zero => cases e2
  | succ m =>
    unfold whileN at e2
    split at e2
    · cases e2
    rename_i b ρ3 e3
    refine ⟨F, G2, ρ2, b, ρ3, R2, e3, fun G3 H3 s3 R3 => ?_⟩
    cases b with
    | false =>
      cases e2
      exact iteF (k σ' G3 H3 (s2.trans s3) R3)
    | true =>
      refine iteT ⟨_, fun σ5 H5 w => ⟨m, Nat.lt_succ_self m, w⟩, ?_⟩
      rw [if_pos rfl] at e2
      split at e2
      · cases e2
      · rename_i ρ4 e4
        exact ⟨F, G3, ρ3, .nx, ρ4, R3, e4, fun σ5 G5 H5 s5 R5 => ⟨G5, ρ4, (s2.trans s3).trans s5, R5, e2⟩⟩
      · rename_i ρ4 e4
        exact ⟨F, G3, ρ3, .ct, ρ4, R3, e4, fun σ5 G5 H5 s5 R5 => ⟨G5, ρ4, (s2.trans s3).trans s5, R5, e2⟩⟩
      · rename_i ρ4 e4
        cases e2
        exact ⟨F, G3, ρ3, .bk, _, R3, e4, fun σ5 G5 H5 s5 R5 => k σ5 G5 H5 ((s2.trans s3).trans s5) R5⟩
      · rename_i r ρ4 e4
        cases e2
        exact ⟨F, G3, ρ3, .rt r, _, R3, e4, fun σ5 G5 H5 s5 R5 => k σ5 G5 H5 ((s2.trans s3).trans s5) R5⟩
section
variable {X : Cx} {e : Expr} {body : List Stmt} {fa : Ex} {f : Sx} {c : Tx} {pos : Pos}
theorem sv_for {tg iter : Expr} {it : Ix} {bind : Bx} {is : List Nat} (hp : PassesOwn (model X.prog X.w) X.A X.env X.xe) (hc : X.calm = true) (hi : PIv X tg iter it) (hg : PGv X tg bind is) (hb : PBv X body f)
    (hs : ∀ x, foldedSetIterable iter X.env x = pure x := by intro _; rfl) : PSv X (.For tg iter body [] pos) (sFor it bind f) := by
  exact PS.imp (ps_for hp hc hi hg hb hs) fun D σ H h => read_for itd_self gd_self h
theorem sv_while {n : Nat} (hp : PassesOwn (model X.prog X.w) X.A X.env X.xe) (hc : PTv X e c) (hb : PBv X body f) : PSv X (.While e body [] pos) (sWhile n c f) := PS.imp (ps_while hp hc hb) fun D σ H h => read_while h
def iRange1 (f : Ex) : Ix := fun ρ => match f ρ with
  | some (.d (.int j), ρ1) => if -(2 ^ 62) ≤ j ∧ j < 2 ^ 62 then some ((List.range j.toNat).map fun k : Nat => D.int (k : Int), ρ1) else none
  | _ => none
def iRange2 (f g : Ex) : Ix := fun ρ => match f ρ with
  | some (.d (.int i), ρ1) => match g ρ1 with
    | some (.d (.int j), ρ2) => if -(2 ^ 62) ≤ i ∧ i < 2 ^ 62 ∧ -(2 ^ 62) ≤ j ∧ j < 2 ^ 62 then some ((List.range (j - i).toNat).map fun k : Nat => D.int (i + (k : Int)), ρ2) else none
    | _ => none
  | _ => none
theorem jok_range {K : PySem.W.Frag} {lo : Int} {n : Nat} {G : Hp} : JOk K (Itr lo n) G ((List.range n).map fun k : Nat => D.int (lo + (k : Int))) := fun H i s => by
  refine ⟨fun h => by
    have h : i < n := by simpa using h
    exact h, fun h => by
    have h : n ≤ i := by simpa using h
    exact h, fun v H' x y e => ?_⟩
  obtain ⟨rfl, rfl⟩ := y
  simp only [List.getElem?_map] at e
  rw [List.getElem?_range (by
    by_cases h : i < n
    · exact h
    · rw [List.getElem?_eq_none (by simpa using h)] at e; cases e)] at e
  cases e
  exact .same rfl
theorem iv_range1 {p pos : Pos} {tg a : Expr} {f : Ex} (hg : Gl X "range") (hm : X.mg "range" = none) (h : PEv X a f) (hst : starEach [a] X.env = (false, eval a X.env) :: starEach [] X.env := by rfl) :
    PIv X tg (.Call (.Name "range" p) [a] [] pos) (iRange1 f) := by
  refine iv_of (pi_range1 hg hm (pa_cons h pa_nil hst) hst) fun σ H R h => ?_
  obtain ⟨F, G, ρ, xs, ρ', R0, e, k⟩ := h
  unfold iRange1 at e
  split at e
  · rename_i j ρ1 e1
    split at e
    · rename_i hb
      cases e
      refine ⟨F, G, ρ, _, _, R0, e1, fun v G1 H1 s1 R1 q1 => ⟨j, by cases (show v = .int j from q1); rfl, hb.1, hb.2, ?_⟩⟩
      refine k _ H1 G1 s1 R1 ?_
      have z := jok_range (K := X.K) (lo := 0) (n := j.toNat) (G := G1)
      simpa using z
    · cases e
  · cases e
theorem iv_range2 {p pos : Pos} {tg a b : Expr} {f g : Ex} (hg : Gl X "range") (hm : X.mg "range" = none) (h : PEv X a f) (h2 : PEv X b g) (hst : starEach [a, b] X.env = [(false, eval a X.env), (false, eval b X.env)] := by rfl) (hst2 : starEach [b] X.env = [(false, eval b X.env)] := by rfl) :
    PIv X tg (.Call (.Name "range" p) [a, b] [] pos) (iRange2 f g) := by
  refine iv_of (pi_range2 hg hm (pa_cons h (pa_cons h2 pa_nil hst2) (by rw [hst, hst2])) hst hst2) fun σ H R h => ?_
  obtain ⟨F, G, ρ, xs, ρ', R0, e, k⟩ := h
  unfold iRange2 at e
  split at e
  rotate_left
  · cases e
  rename_i i ρ1 e1
  split at e
  rotate_left
  · cases e
  rename_i j ρ2 e2
  split at e
  · rename_i hb
    cases e
    refine ⟨F, G, ρ, _, ρ1, R0, e1, fun v G1 H1 s1 R1 q1 => ⟨F, G1, ρ1, _, _, R1, e2, fun w G2 H2 s2 R2 q2 => ⟨i, j, by cases (show v = .int i from q1); cases (show w = .int j from q2); rfl, hb, ?_⟩⟩⟩
    exact k _ H2 G2 (s1.trans s2) R2 jok_range
  · cases e
def iLst (f : Ex) : Ix := fun ρ => match bFz f ρ with
  | some (.d (.lst xs), ρ1) => some (xs, ρ1)
  | _ => none
def iTpl (f : Ex) : Ix := fun ρ => match f ρ with
  | some (.d (.tup xs), ρ1) => some (xs, ρ1)
  | _ => none
def iTxt (f : Ex) : Ix := fun ρ => match f ρ with
  | some (.d (.str s), ρ1) => some (s.map fun c => D.str [c], ρ1)
  | _ => none
theorem rds_walk {K : PySem.W.Frag} {G : Hp} {xs : List D} {vs : List V} (h : RDs K G xs vs) {i : Nat} {v : V} {x : D} (h1 : vs[i]? = some v) (h2 : xs[i]? = some x) : RD K G x v := by
  obtain ⟨u, e1, e2⟩ := h.get h2
  rw [h1] at e1; cases e1; exact e2
theorem iv_list {tg a : Expr} {f : Ex} (h : PEv X a f) : PIv X tg a (iLst f) := by
  refine iv_of (pi_list (ev_fz h)) fun σ H R h => ?_
  obtain ⟨F, G, ρ, xs, ρ', R0, e, k⟩ := h
  unfold iLst at e
  split at e
  rotate_left
  · cases e
  rename_i ys ρ1 e1
  cases e
  refine ⟨F, G, ρ, _, _, R0, e1, fun v G1 H1 s1 R1 q1 => ?_⟩
  obtain ⟨p, vs, rfl, h2, h3⟩ := q1
  refine ⟨p, rfl, ⟨vs, SqL.of (R1.gh _ _ h2)⟩, k _ H1 G1 s1 R1 fun H2 i s2 => ?_⟩
  have hl : SqL X.K H2 p vs := SqL.of (s2 _ _ h2)
  refine ⟨fun hi => ⟨vs, vs[i]'(by rw [h3.length]; exact hi), hl, by simp⟩, fun hi => ⟨vs, hl, by rw [h3.length]; exact hi⟩, fun w H' x y ex => ?_⟩
  obtain ⟨rfl, hw⟩ := y
  exact .same (rds_walk h3 (hw vs hl) ex)
theorem iv_tup {tg a : Expr} {f : Ex} (h : PEv X a f) : PIv X tg a (iTpl f) := by
  refine iv_of (pi_tup h) fun σ H R h => ?_
  obtain ⟨F, G, ρ, xs, ρ', R0, e, k⟩ := h
  unfold iTpl at e
  split at e
  rotate_left
  · cases e
  rename_i ys ρ1 e1
  cases e
  refine ⟨F, G, ρ, _, _, R0, e1, fun v G1 H1 s1 R1 q1 => ?_⟩
  obtain ⟨p, vs, rfl, h2, h3⟩ := q1
  refine ⟨p, rfl, ⟨vs, sameT R1.gh h2⟩, k _ H1 G1 s1 R1 fun H2 i s2 => ?_⟩
  have hl : SqT X.K H2 p vs := sameT s2 h2
  refine ⟨fun hi => ⟨vs, vs[i]'(by rw [h3.length]; exact hi), hl, by simp⟩, fun hi => ⟨vs, hl, by rw [h3.length]; exact hi⟩, fun w H' x y ex => ?_⟩
  obtain ⟨rfl, hw⟩ := y
  exact .same (rds_walk h3 (hw vs hl) ex)
theorem iv_txt {tg a : Expr} {f : Ex} (h : PEv X a f) : PIv X tg a (iTxt f) := by
  refine iv_of (pi_str h) fun σ H R h => ?_
  obtain ⟨F, G, ρ, xs, ρ', R0, e, k⟩ := h
  unfold iTxt at e
  split at e
  rotate_left
  · cases e
  rename_i s ρ1 e1
  cases e
  refine ⟨F, G, ρ, _, _, R0, e1, fun v G1 H1 s1 R1 q1 => ⟨⟨s.toArray⟩, q1, k _ H1 G1 s1 R1 fun H2 i s2 => ?_⟩⟩
  refine ⟨fun hi => by
    have hi : i < s.length := by simpa using hi
    exact (by simpa using hi : i < s.toArray.size), fun hi => by
    have hi : s.length ≤ i := by simpa using hi
    exact (by simpa using hi : s.toArray.size ≤ i), fun w H' x y ex => ?_⟩
  obtain ⟨rfl, c, hc, rfl⟩ := y
  have hc : s[i]? = some c := by simpa using hc
  rw [List.getElem?_map, hc] at ex
  cases ex
  exact .same rfl
end
end M
namespace M
open PySem L2
def wipeS (ρ : Sl) : List Nat → Sl
  | [] => ρ
  | v :: vs => (wipeS ρ vs).set v none
def restS (ρ1 ρ2 : Sl) : List Nat → Sl
  | [] => ρ2
  | v :: vs => (restS ρ1 ρ2 vs).set v (ρ1.getD v none)
def noOwn (ρ : Sl) (vs : List Nat) : Bool := vs.all fun j => match ρ[j]? with
  | some (some (.own _ _)) => false
  | _ => true
theorem Rep.wipe {K : PySem.W.Frag} {F : Fm} {G H : Hp} {σ : Sg} {ρ : Sl} (R : Rep K F G H σ ρ) : ∀ vs : List Nat, Rep K F G H (L2.wipe σ vs) (wipeS ρ vs)
  | [] => R
  | v :: vs => (Rep.wipe R vs).clear
theorem restS_at {ρ1 ρ2 : Sl} {i : Nat} {x : SV} : ∀ {vs : List Nat}, At (restS ρ1 ρ2 vs) i x → (i ∈ vs ∧ At ρ1 i x) ∨ (i ∉ vs ∧ At ρ2 i x)
  | [], h => .inr ⟨by simp, h⟩
  | v :: vs, h => by
    unfold restS at h
    rcases h.of_set with ⟨rfl, e, _⟩ | ⟨hv, h⟩
    · refine .inl ⟨List.mem_cons_self, ?_⟩
      unfold At
      unfold List.getD at e
      cases q : ρ1[v]? with
      | none => rw [q] at e; cases e
      | some o => rw [q] at e; cases e; rfl
    · rcases restS_at h with ⟨h1, h2⟩ | ⟨h1, h2⟩
      · exact .inl ⟨List.mem_cons_of_mem _ h1, h2⟩
      · exact .inr ⟨by simp [h1, Ne.symm hv], h2⟩
theorem restS_len {ρ1 ρ2 : Sl} : ∀ {vs : List Nat}, (restS ρ1 ρ2 vs).length = ρ2.length
  | [] => rfl
  | v :: vs => by unfold restS; rw [List.length_set, restS_len]
theorem wipe_at {σ : Sg} {vs : List Nat} {i : Nat} {v : V} (h : vAt (L2.wipe σ vs) i v) : vAt σ i v ∧ i ∉ vs := wipe_some h
theorem at_wipe {σ : Sg} {vs : List Nat} {i : Nat} {v : V} (h : vAt σ i v) (hi : i ∉ vs) : vAt (L2.wipe σ vs) i v := by
  unfold vAt At at *; rw [wipe_out hi]; exact h
theorem Rep.rest {K : PySem.W.Frag} {F : Fm} {G1 H1 G2 H2 : Hp} {σ : Sg} {ρ1 ρ2 : Sl} {vs : List Nat} (R1 : Rep K F G1 H1 σ ρ1) (R2 : Rep K F G2 H2 (L2.wipe σ vs) ρ2) (s : Same G1 G2) (hn : noOwn ρ1 vs = true) : Rep K F G2 H2 σ (restS ρ1 ρ2 vs) where
  gh := R2.gh
  fh := R2.fh
  fg := R2.fg
  len := by rw [restS_len, R2.len, wipe_length]
  dat := fun i x e => by
    rcases restS_at e with ⟨h1, h2⟩ | ⟨h1, h2⟩
    · obtain ⟨v, g1, g2⟩ := R1.dat i x h2
      exact ⟨v, g1, RD.mono s _ _ g2⟩
    · obtain ⟨v, g1, g2⟩ := R2.dat i x h2
      exact ⟨v, (wipe_at g1).1, g2⟩
  own := fun i b xs e => by
    rcases restS_at e with ⟨h1, h2⟩ | ⟨h1, h2⟩
    · unfold noOwn at hn
      rw [List.all_eq_true] at hn
      have := hn i h1
      unfold At at h2
      rw [h2] at this
      cases this
    · obtain ⟨p, vs, g1, g2⟩ := R2.own i b xs h2
      exact ⟨p, vs, (wipe_at g1).1, g2⟩
  sep := fun i j p b c xs ys hij e1 e2 e3 e4 => by
    have key : ∀ {i : Nat} {b : Bool} {xs : List D}, oAt (restS ρ1 ρ2 vs) i b xs → i ∉ vs ∧ oAt ρ2 i b xs := fun {i b xs} e => by
      rcases restS_at e with ⟨h1, h2⟩ | h
      · unfold noOwn at hn
        rw [List.all_eq_true] at hn
        have := hn i h1
        unfold At at h2
        rw [h2] at this
        cases this
      · exact h
    obtain ⟨n1, o1⟩ := key e1
    obtain ⟨n2, o2⟩ := key e2
    exact R2.sep i j p b c xs ys hij o1 o2 (at_wipe e3 n1) (at_wipe e4 n2)
theorem Rep.poke {K : PySem.W.Frag} {F : Fm} {G H : Hp} {σ : Sg} {ρ : Sl} {p : Addr} {o : HO} (R : Rep K F G H σ ρ) (gp : G p = none) (fp : F.hp p = none) (ns : ∀ i b ys, oAt ρ i b ys → ¬ vAt σ i (.ref p)) : Rep K F G (upd H p o) σ ρ where
  gh := fun b u e => by rw [upd_ne (ne_of_none e gp)]; exact R.gh b u e
  fh := fun b u e => by rw [upd_ne (ne_of_none e fp)]; exact R.fh b u e
  fg := R.fg
  len := R.len
  dat := R.dat
  own := fun i b xs e => by
    obtain ⟨q, vs, h1, h2, h3⟩ := R.own i b xs e
    have hq : q ≠ p := fun z => ns i b xs e (z ▸ h1)
    exact ⟨q, vs, h1, by rw [upd_ne hq]; exact h2, h3⟩
  sep := R.sep
def compGo (vs : List Nat) (bind : Bx) (cond : Tx) (elt : Ex) : List D → List D → Sl → Option (List D × Sl)
  | [], acc, ρ => some (acc, ρ)
  | x :: xs, acc, ρ => match bind x ρ with
    | none => none
    | some ρ1 => match cond ρ1 with
      | none => none
      | some (b, ρ2) => if b then match bFz elt ρ2 with
          | some (.d y, ρ3) => if acc.length < 16777216 then compGo vs bind cond elt xs (acc ++ [y]) (wipeS ρ3 vs) else none
          | _ => none
        else compGo vs bind cond elt xs acc (wipeS ρ2 vs)
def bComp (it : Ix) (vs : List Nat) (bind : Bx) (cond : Tx) (elt : Ex) : Ex := fun ρ => match it ρ with
  | none => none
  | some (xs, ρ1) => if noOwn ρ1 vs then match compGo vs bind cond elt xs [] (wipeS ρ1 vs) with
      | none => none
      | some (ys, ρ2) => some (.own ys, restS ρ1 ρ2 vs)
    else none
def bYes : Tx := fun ρ => some (true, ρ)
theorem sizeLine_num : sizeLine = 16777216 := by decide
structure Acc (K : PySem.W.Frag) (F : Fm) (G H : Hp) (σ : Sg) (ρ : Sl) (P : Addr) (acc : List D) (av : List V) : Prop where
  rep : Rep K F G H σ ρ
  hp : H P = some (.lst av)
  gp : G P = none
  fp : F.hp P = none
  ns : ∀ i b ys, oAt ρ i b ys → ¬ vAt σ i (.ref P)
  rds : RDs K G acc av
theorem Acc.lend {K : PySem.W.Frag} {F : Fm} {G H : Hp} {σ : Sg} {ρ : Sl} {P : Addr} {acc : List D} {av : List V} (a : Acc K F G H σ ρ P acc av) : Rep K ⟨upd F.hp P (.lst av), F.par⟩ G H σ ρ := a.rep.lend a.hp a.gp a.ns
theorem Acc.of {K : PySem.W.Frag} {F : Fm} {G H G0 : Hp} {σ : Sg} {ρ : Sl} {P : Addr} {acc : List D} {av : List V} (R : Rep K ⟨upd F.hp P (.lst av), F.par⟩ G H σ ρ) (fp : F.hp P = none) (r : RDs K G0 acc av) (s : Same G0 G) : Acc K F G H σ ρ P acc av := by
  obtain ⟨R', h1, h2, h3⟩ := R.back fp
  exact ⟨R', h1, h2, fp, h3, RDs.mono s _ _ r⟩
theorem Acc.push {K : PySem.W.Frag} {F : Fm} {G H : Hp} {σ : Sg} {ρ : Sl} {P : Addr} {acc : List D} {av : List V} {y : D} {v : V} (a : Acc K F G H σ ρ P acc av) (h : RD K G y v) : Acc K F G (upd H P (.lst (av ++ [v]))) σ ρ P (acc ++ [y]) (av ++ [v]) :=
  ⟨a.rep.poke a.gp a.fp a.ns, upd_same, a.gp, a.fp, a.ns, a.rds.append (RDs.one h)⟩
theorem Acc.wipe {K : PySem.W.Frag} {F : Fm} {G H : Hp} {σ : Sg} {ρ : Sl} {P : Addr} {acc : List D} {av : List V} (a : Acc K F G H σ ρ P acc av) (vs : List Nat) : Acc K F G H (L2.wipe σ vs) (wipeS ρ vs) P acc av := by
  refine ⟨a.rep.wipe vs, a.hp, a.gp, a.fp, fun i b ys h1 h2 => ?_, a.rds⟩
  have key : ∀ {vs : List Nat} {x : SV}, At (wipeS ρ vs) i x → At ρ i x := by
    intro vs
    induction vs with
    | nil => intro x h; exact h
    | cons v vs ih =>
      intro x h
      unfold wipeS at h
      rcases h.of_set with ⟨_, z, _⟩ | ⟨_, h⟩
      · cases z
      · exact ih h
  exact a.ns i b ys (key h1) (wipe_at h2).1
theorem comp_elt {K : PySem.W.Frag} {F : Fm} {G H : Hp} {σ σ0 : Sg} {ρ : Sl} {P : Addr} {acc : List D} {av : List V} {vs : List Nat} {bind : Bx} {cond : Tx} {elt : Ex} {xs : List D} {out : List D × Sl} {Nx : Hp → Prop}
    (a : Acc K F G H σ ρ P acc av) (hw : L2.wipe σ vs = L2.wipe σ0 vs)
    (e : (match bFz elt ρ with
          | some (.d y, ρ3) => if acc.length < 16777216 then compGo vs bind cond elt xs (acc ++ [y]) (wipeS ρ3 vs) else none
          | _ => none) = some out)
    (hk : ∀ G' H' ρ' acc' av', Same G G' → Acc K F G' H' (L2.wipe σ0 vs) ρ' P acc' av' → compGo vs bind cond elt xs acc' ρ' = some out → Nx H') :
    tE K (bFz elt) σ H fun y H4 => ∃ ac, H4 P = some (.lst ac) ∧ ac.length < sizeLine ∧ Nx (upd H4 P (.lst (ac ++ [y]))) := by
  split at e
  rotate_left
  · cases e
  rename_i y ρ3 e1
  split at e
  rotate_left
  · cases e
  rename_i hl
  refine ⟨_, G, ρ, _, ρ3, a.lend, e1, fun v G1 H1 s1 R1 q1 => ?_⟩
  have a1 := Acc.of R1 a.fp a.rds s1
  refine ⟨av, a1.hp, by rw [sizeLine_num, a.rds.length]; exact hl, ?_⟩
  have a2 := (a1.push (show RD K G1 y v from q1)).wipe vs
  rw [hw] at a2
  exact hk G1 _ _ _ _ s1 a2 e
def CInv (K : PySem.W.Frag) (F : Fm) (G1 : Hp) (σ : Sg) (vs : List Nat) (bind : Bx) (cond : Tx) (elt : Ex) (xs : List D) (P : Addr) (out : List D × Sl) (i m : Nat) (H' : Hp) : Prop :=
  m = xs.length - i ∧ i ≤ xs.length ∧ ∃ G2 ρ2 acc av, Same G1 G2 ∧ Acc K F G2 H' (L2.wipe σ vs) ρ2 P acc av ∧ compGo vs bind cond elt (xs.drop i) acc ρ2 = some out
theorem read_comp {K : PySem.W.Frag} {wi : TI} {g : TG} {it : Ix} {bind : Bx} {cond : Tx} {elt : Ex} {vs is : List Nat} (hi : ItD K wi it) (hg : GD K g bind is) (his : ∀ i ∈ is, i ∈ vs) {σ : Sg} {H : Hp} {Q : VK} (h : tE K (bComp it vs bind cond elt) σ H Q) :
    tLc wi g (tT K cond) (tE K (bFz elt)) vs σ H Q := by
  obtain ⟨F, G, ρ, r, ρ', R, q, k⟩ := h
  unfold bComp at q
  split at q
  · cases q
  rename_i xs ρ1 e1
  split at q
  rotate_left
  · cases q
  rename_i hno
  split at q
  · cases q
  rename_i ys ρ2 e2
  cases q
  refine hi σ H _ ⟨F, G, ρ, xs, ρ1, R, e1, fun J H1 G1 s1 R1 hj => ?_⟩
  intro P hP
  have a0 : Acc K F G1 (upd H1 P (.lst [])) σ ρ1 P [] [] := ⟨R1.new hP, upd_same, R1.gNone hP, R1.fNone hP, R1.oNe hP, rfl⟩
  refine ⟨CInv K F G1 σ vs bind cond elt xs P (ys, ρ2),
    ⟨xs.length, rfl, Nat.zero_le _, G1, _, [], [], Same.refl _, a0.wipe vs, e2⟩, ?_⟩
  rintro i m H' ⟨rfl, hil, G2, ρ3, acc, av, s2, a, e3⟩
  obtain ⟨j1, j2, j3⟩ := hj H' i (s2.trans a.rep.gh)
  by_cases hlt : i < xs.length
  · refine .inr ⟨j1 hlt, CInv K F G1 σ vs bind cond elt xs P (ys, ρ2) (i + 1) (xs.length - (i + 1)), fun H3 w => ⟨xs.length - (i + 1), by omega, w⟩, fun v H3 y => ?_⟩
    obtain ⟨x, hx, hd⟩ := drop_of hlt
    have z := (j3 v H3 x y hx).mono s2
    obtain ⟨G3, s3, R3, q3⟩ := rz_done a.lend z
    rw [hd] at e3
    unfold compGo at e3
    split at e3
    · cases e3
    rename_i ρ4 e4
    refine hg _ G3 H3 _ ρ3 ρ4 x v _ R3 q3 e4 fun σ4 R4 hw => ⟨(hw vs his).trans (wipe_wipe fun _ z => z), ?_⟩
    have hw4 : L2.wipe σ4 vs = L2.wipe σ vs := (hw vs his).trans (wipe_wipe fun _ z => z)
    split at e3
    · cases e3
    rename_i b ρ5 e5
    refine ⟨_, G3, ρ4, b, ρ5, R4, e5, fun G5 H5 s5 R5 => ?_⟩
    have a5 := Acc.of R5 a.fp a.rds (s3.trans s5)
    cases b with
    | true =>
      rw [if_pos rfl] at e3
      refine iteT (comp_elt (bind := bind) (cond := cond) (xs := xs.drop (i + 1)) (out := (ys, ρ2)) (Nx := CInv K F G1 σ vs bind cond elt xs P (ys, ρ2) (i + 1) (xs.length - (i + 1))) a5 hw4 e3 fun G6 H6 ρ6 acc6 av6 s6 a6 e6 => ⟨rfl, hlt, G6, ρ6, acc6, av6, (((s2.trans s3).trans s5).trans s6), a6, e6⟩)
    | false =>
      rw [if_neg (by simp)] at e3
      have a6 := a5.wipe vs
      rw [hw4] at a6
      exact iteF ⟨rfl, hlt, G5, _, acc, av, ((s2.trans s3).trans s5), a6, e3⟩
  · refine .inl ⟨j2 (by omega), ?_⟩
    rw [List.drop_eq_nil_of_le (by omega)] at e3
    cases e3
    have R9 := R1.rest a.rep s2 hno
    refine k (.ref P) G2 H' (s1.trans s2) R9 ⟨P, av, rfl, a.hp, a.gp, a.fp, a.rds, fun j b zs h1 h2 => ?_⟩
    rcases restS_at h1 with ⟨g1, g2⟩ | ⟨g1, g2⟩
    · unfold noOwn at hno
      rw [List.all_eq_true] at hno
      have := hno j g1
      unfold At at g2
      rw [g2] at this
      cases this
    · exact a.ns j b zs g2 (at_wipe h2 g1)
theorem comp_turn {K : PySem.W.Frag} {F : Fm} {g : TG} {bind : Bx} {cond : Tx} {elt : Ex} {vs is : List Nat} (hg : GD K g bind is) (his : ∀ i ∈ is, i ∈ vs) {σ : Sg} {G1 : Hp} {xs : List D} {P : Addr} {out : List D × Sl} {J : It} (hj : JOk K J G1 xs)
    {i m : Nat} {H' : Hp} (hlt : i < xs.length) (c : CInv K F G1 σ vs bind cond elt xs P out i m H') :
    J.go i H' ∧ ∃ Nx : Hp → Prop, (∀ H3, Nx H3 → ∃ m', m' < m ∧ CInv K F G1 σ vs bind cond elt xs P out (i + 1) m' H3) ∧ ∀ v H3, J.yld i H' v H3 → g v (L2.wipe σ vs) H3 fun σ2 H2 => L2.wipe σ2 vs = L2.wipe σ vs ∧ tT K cond σ2 H2 fun b H3 =>
      if b = true then tE K (bFz elt) σ2 H3 fun y H4 => ∃ acc, H4 P = some (.lst acc) ∧ acc.length < sizeLine ∧ Nx (upd H4 P (.lst (acc ++ [y]))) else Nx H3 := by
  obtain ⟨rfl, hil, G2, ρ3, acc, av, s2, a, e3⟩ := c
  obtain ⟨j1, j2, j3⟩ := hj H' i (s2.trans a.rep.gh)
  refine ⟨j1 hlt, CInv K F G1 σ vs bind cond elt xs P out (i + 1) (xs.length - (i + 1)), fun H3 w => ⟨xs.length - (i + 1), by omega, w⟩, fun v H3 y => ?_⟩
  obtain ⟨x, hx, hd⟩ := drop_of hlt
  have z := (j3 v H3 x y hx).mono s2
  obtain ⟨G3, s3, R3, q3⟩ := rz_done a.lend z
  rw [hd] at e3
  unfold compGo at e3
  split at e3
  · cases e3
  rename_i ρ4 e4
  refine hg _ G3 H3 _ ρ3 ρ4 x v _ R3 q3 e4 fun σ4 R4 hw => ⟨(hw vs his).trans (wipe_wipe fun _ z => z), ?_⟩
  have hw4 : L2.wipe σ4 vs = L2.wipe σ vs := (hw vs his).trans (wipe_wipe fun _ z => z)
  split at e3
  · cases e3
  rename_i b ρ5 e5
  refine ⟨_, G3, ρ4, b, ρ5, R4, e5, fun G5 H5 s5 R5 => ?_⟩
  have a5 := Acc.of R5 a.fp a.rds (s3.trans s5)
  cases b with
  | true =>
    rw [if_pos rfl] at e3
    refine iteT (comp_elt (bind := bind) (cond := cond) (xs := xs.drop (i + 1)) (out := out) (Nx := CInv K F G1 σ vs bind cond elt xs P out (i + 1) (xs.length - (i + 1))) a5 hw4 e3 fun G6 H6 ρ6 acc6 av6 s6 a6 e6 => ⟨rfl, hlt, G6, ρ6, acc6, av6, (((s2.trans s3).trans s5).trans s6), a6, e6⟩)
  | false =>
    rw [if_neg (by simp)] at e3
    have a6 := a5.wipe vs
    rw [hw4] at a6
    exact iteF ⟨rfl, hlt, G5, _, acc, av, ((s2.trans s3).trans s5), a6, e3⟩
def comp2Go (vs vs1 : List Nat) (bind : Bx) (cond : Tx) (it1 : Ix) (bind1 : Bx) (cond1 : Tx) (elt : Ex) : List D → List D → Sl → Option (List D × Sl)
  | [], acc, ρ => some (acc, ρ)
  | x :: xs, acc, ρ => match bind x ρ with
    | none => none
    | some ρ1 => match cond ρ1 with
      | none => none
      | some (b, ρ2) => if b then match it1 ρ2 with
          | none => none
          | some (zs, ρ3) => match compGo vs1 bind1 cond1 elt zs acc (wipeS ρ3 vs1) with
            | none => none
            | some (acc', ρ4) => comp2Go vs vs1 bind cond it1 bind1 cond1 elt xs acc' (wipeS ρ4 vs)
        else comp2Go vs vs1 bind cond it1 bind1 cond1 elt xs acc (wipeS ρ2 vs)
def bComp2 (it : Ix) (vs vs1 : List Nat) (bind : Bx) (cond : Tx) (it1 : Ix) (bind1 : Bx) (cond1 : Tx) (elt : Ex) : Ex := fun ρ => match it ρ with
  | none => none
  | some (xs, ρ1) => if noOwn ρ1 vs then match comp2Go vs vs1 bind cond it1 bind1 cond1 elt xs [] (wipeS ρ1 vs) with
      | none => none
      | some (ys, ρ2) => some (.own ys, restS ρ1 ρ2 vs)
    else none
def CInv2 (K : PySem.W.Frag) (F : Fm) (G1 : Hp) (σ : Sg) (vs vs1 : List Nat) (bind : Bx) (cond : Tx) (it1 : Ix) (bind1 : Bx) (cond1 : Tx) (elt : Ex) (xs : List D) (P : Addr) (out : List D × Sl) (i m : Nat) (H' : Hp) : Prop :=
  m = xs.length - i ∧ i ≤ xs.length ∧ ∃ G2 ρ2 acc av, Same G1 G2 ∧ Acc K F G2 H' (L2.wipe σ vs) ρ2 P acc av ∧ comp2Go vs vs1 bind cond it1 bind1 cond1 elt (xs.drop i) acc ρ2 = some out
theorem read_comp2 {K : PySem.W.Frag} {wi wi1 : TI} {g g1 : TG} {it it1 : Ix} {bind bind1 : Bx} {cond cond1 : Tx} {elt : Ex} {vs is vs1 is1 : List Nat} (hi : ItD K wi it) (hg : GD K g bind is) (his : ∀ i ∈ is, i ∈ vs) (hi1 : ItD K wi1 it1) (hg1 : GD K g1 bind1 is1) (his1 : ∀ i ∈ is1, i ∈ vs1)
    (hvs : ∀ i ∈ vs1, i ∈ vs) {σ : Sg} {H : Hp} {Q : VK} (h : tE K (bComp2 it vs vs1 bind cond it1 bind1 cond1 elt) σ H Q) :
    tLc2 wi g (tT K cond) wi1 g1 (tT K cond1) (tE K (bFz elt)) vs vs1 σ H Q := by
  obtain ⟨F, G, ρ, r, ρ', R, q, k⟩ := h
  unfold bComp2 at q
  split at q
  · cases q
  rename_i xs ρ1 e1
  split at q
  rotate_left
  · cases q
  rename_i hno
  split at q
  · cases q
  rename_i ys ρ2 e2
  cases q
  refine hi σ H _ ⟨F, G, ρ, xs, ρ1, R, e1, fun J H1 G1 s1 R1 hj => ?_⟩
  intro P hP
  have a0 : Acc K F G1 (upd H1 P (.lst [])) σ ρ1 P [] [] := ⟨R1.new hP, upd_same, R1.gNone hP, R1.fNone hP, R1.oNe hP, rfl⟩
  refine ⟨CInv2 K F G1 σ vs vs1 bind cond it1 bind1 cond1 elt xs P (ys, ρ2), ⟨xs.length, rfl, Nat.zero_le _, G1, _, [], [], Same.refl _, a0.wipe vs, e2⟩, ?_⟩
  rintro i m H' ⟨rfl, hil, G2, ρ3, acc, av, s2, a, e3⟩
  obtain ⟨j1, j2, j3⟩ := hj H' i (s2.trans a.rep.gh)
  by_cases hlt : i < xs.length
  · refine .inr ⟨j1 hlt, CInv2 K F G1 σ vs vs1 bind cond it1 bind1 cond1 elt xs P (ys, ρ2) (i + 1) (xs.length - (i + 1)), fun H3 w => ⟨xs.length - (i + 1), by omega, w⟩, fun v H3 y => ?_⟩
    obtain ⟨x, hx, hd⟩ := drop_of hlt
    have z := (j3 v H3 x y hx).mono s2
    obtain ⟨G3, s3, R3, q3⟩ := rz_done a.lend z
    rw [hd] at e3
    unfold comp2Go at e3
    split at e3
    · cases e3
    rename_i ρ4 e4
    refine hg _ G3 H3 _ ρ3 ρ4 x v _ R3 q3 e4 fun σ4 R4 hw => ⟨(hw vs his).trans (wipe_wipe fun _ z => z), ?_⟩
    have hw4 : L2.wipe σ4 vs = L2.wipe σ vs := (hw vs his).trans (wipe_wipe fun _ z => z)
    split at e3
    · cases e3
    rename_i b ρ5 e5
    refine ⟨_, G3, ρ4, b, ρ5, R4, e5, fun G5 H5 s5 R5 => ?_⟩
    cases b with
    | true =>
      rw [if_pos rfl] at e3
      refine iteT ?_
      split at e3
      · cases e3
      rename_i zs ρ6 e6
      split at e3
      · cases e3
      rename_i acc' ρ7 e7
      refine hi1 σ4 H5 _ ⟨_, G5, ρ5, zs, ρ6, R5, e6, fun J1 H6 G6 s6 R6 hj1 => ?_⟩
      have a6 := Acc.of R6 a.fp a.rds ((s3.trans s5).trans s6)
      refine ⟨CInv K F G6 σ4 vs1 bind1 cond1 elt zs P (acc', ρ7), ⟨zs.length, rfl, Nat.zero_le _, G6, _, acc, av, Same.refl _, a6.wipe vs1, e7⟩, fun j n H7 c => ?_⟩
      by_cases hl1 : j < zs.length
      · exact .inr (comp_turn hg1 his1 hj1 hl1 c)
      · obtain ⟨rfl, hjl, G7, ρ8, acc8, av8, s7, a8, e8⟩ := c
        obtain ⟨k1, k2, k3⟩ := hj1 H7 j (s7.trans a8.rep.gh)
        refine .inl ⟨k2 (by omega), ?_⟩
        rw [List.drop_eq_nil_of_le (by omega)] at e8
        cases e8
        have a9 := a8.wipe vs
        rw [wipe_wipe hvs, hw4] at a9
        exact ⟨rfl, hlt, G7, _, _, av8, ((((s2.trans s3).trans s5).trans s6).trans s7), a9, e3⟩
    | false =>
      rw [if_neg (by simp)] at e3
      have a6 := (Acc.of R5 a.fp a.rds (s3.trans s5)).wipe vs
      rw [hw4] at a6
      exact iteF ⟨rfl, hlt, G5, _, acc, av, ((s2.trans s3).trans s5), a6, e3⟩
  · refine .inl ⟨j2 (by omega), ?_⟩
    rw [List.drop_eq_nil_of_le (by omega)] at e3
    cases e3
    have R9 := R1.rest a.rep s2 hno
    refine k (.ref P) G2 H' (s1.trans s2) R9 ⟨P, av, rfl, a.hp, a.gp, a.fp, a.rds, fun j b zs h1 h2 => ?_⟩
    rcases restS_at h1 with ⟨g1, g2⟩ | ⟨g1, g2⟩
    · unfold noOwn at hno
      rw [List.all_eq_true] at hno
      have := hno j g1
      unfold At at g2
      rw [g2] at this
      cases this
    · exact a.ns j b zs g2 (at_wipe h2 g1)
end M
namespace M
open PySem PySem.Spec PyProof.Rows L2
section
variable {X : Cx}
def PTsv (X : Cx) (ifs : List Expr) (f : Tx) : Prop := PTs X ifs (tT X.K f)
theorem tsv_nil : PTsv X [] bYes := ⟨fun pins s σ H Q I h => by
  obtain ⟨F, G, ρ, b, ρ', R, e, k⟩ := h
  cases e
  exact pts_nil.run pins s σ H Q I (k G H (Same.refl G) R)⟩
theorem tsv_one {c : Expr} {f : Tx} (h : PTv X c f) : PTsv X [c] f := pts_one h
theorem ev_comp {elt tg iter : Expr} {ifs : List Expr} {scope : Scope} {own : List (Str × Nat)} {pos : Pos} {it : Ix} {bind : Bx} {is : List Nat} {cond : Tx} {fe : Ex} (hc : X.calm = true) (hN : X.N.Nodup) (ok : BlkOk X.N X.env.scope scope own) (hi : PIv X tg iter it)
    (hg : ∀ (s : Shared) (H : Hp) (C : Addr) (cl : List (Str × Addr)) (fp : List Addr), PGv (X.blk s H scope (compEnvC scope cl C X.env) fp) tg bind is)
    (ht : ∀ (s : Shared) (H : Hp) (C : Addr) (cl : List (Str × Addr)) (fp : List Addr), PTsv (X.blk s H scope (compEnvC scope cl C X.env) fp) ifs cond)
    (he : ∀ (s : Shared) (H : Hp) (C : Addr) (cl : List (Str × Addr)) (fp : List Addr), PEv (X.blk s H scope (compEnvC scope cl C X.env) fp) elt fe)
    (his : (is.all fun i => (own.map (·.2)).contains i) = true := by rfl)
    (hs : ∀ x, foldedSetIterable iter X.env x = pure x := by intro _; rfl) :
    PEv X (.ListComp elt [⟨tg, iter, ifs, 0⟩] scope pos) (bComp it (own.map (·.2)) bind cond fe) :=
  PE.imp (pe_lc (g := tG X.K bind is) (tt := tT X.K cond) (te := tE X.K (bFz fe)) hc hN hi ok hg ht (fun s H C cl fp => ev_fz (he s H C cl fp)) hs) fun σ H Q h => read_comp itd_self gd_self (fun i hi => by
    rw [List.all_eq_true] at his
    exact List.contains_iff_mem.mp (his i hi)) h
theorem sv_setComp {elt tg iter : Expr} {ifs : List Expr} {scope : Scope} {own : List (Str × Nat)} {pos spos : Pos} {it : Ix} {bind : Bx} {is : List Nat} {cond : Tx} {fe : Ex} {i : Nat} {y : Str} {py : Pos} (hc : X.calm = true) (hN : X.N.Nodup) (hy : X.N[i]? = some y) (hyl : X.env.scope.names.lookup y = some .local)
    (hsw : swapsWith (.ListComp elt [⟨tg, iter, ifs, 0⟩] scope pos) (some (.Name y py)) spos.line X.env = pure true) (ok : BlkOk X.N X.env.scope scope own) (hi : PIv X tg iter it)
    (hg : ∀ (s : Shared) (H : Hp) (C : Addr) (cl : List (Str × Addr)) (fp : List Addr), PGv (X.blk s H scope (compEnvC scope cl C X.env) fp) tg bind is)
    (ht : ∀ (s : Shared) (H : Hp) (C : Addr) (cl : List (Str × Addr)) (fp : List Addr), PTsv (X.blk s H scope (compEnvC scope cl C X.env) fp) ifs cond)
    (he : ∀ (s : Shared) (H : Hp) (C : Addr) (cl : List (Str × Addr)) (fp : List Addr), PEv (X.blk s H scope (compEnvC scope cl C X.env) fp) elt fe)
    (his : (is.all fun i => (own.map (·.2)).contains i) = true := by rfl)
    (hs : ∀ x, foldedSetIterable iter X.env x = pure x := by intro _; rfl) :
    PSv X (.Assign [.Name y py] (.ListComp elt [⟨tg, iter, ifs, 0⟩] scope pos) spos) (sSet i (bComp it (own.map (·.2)) bind cond fe)) :=
  PS.imp (ps_setLc (g := tG X.K bind is) (tt := tT X.K cond) (te := tE X.K (bFz fe)) hc hN hy hyl hsw hi ok hg ht (fun s H C cl fp => ev_fz (he s H C cl fp)) hs) fun D σ H h => by
    obtain ⟨F, G, ρ, fl, ρ', R, q, k⟩ := h
    unfold sSet at q
    split at q
    · cases q
    rename_i r ρ1 e1
    obtain ⟨ρ2, e2, eq⟩ := Option.map_eq_some_iff.mp q
    cases eq
    refine read_comp itd_self gd_self (fun i hi => by
      rw [List.all_eq_true] at his
      exact List.contains_iff_mem.mp (his i hi)) ⟨F, G, ρ, r, ρ1, R, e1, fun v G1 H1 s1 R1 q => k _ G1 H1 s1 (R1.put q e2)⟩
theorem ev_comp2 {elt tg iter tg1 iter1 : Expr} {ifs ifs1 : List Expr} {scope : Scope} {own : List (Str × Nat)} {vs1 : List Nat} {pos : Pos} {it it1 : Ix} {bind bind1 : Bx} {is is1 : List Nat} {cond cond1 : Tx} {fe : Ex} (hc : X.calm = true) (hN : X.N.Nodup) (ok : BlkOk X.N X.env.scope scope own) (hi : PIv X tg iter it)
    (hg : ∀ (s : Shared) (H : Hp) (C : Addr) (cl : List (Str × Addr)) (fp : List Addr), PGv (X.blk s H scope (compEnvC scope cl C X.env) fp) tg bind is)
    (ht : ∀ (s : Shared) (H : Hp) (C : Addr) (cl : List (Str × Addr)) (fp : List Addr), PTsv (X.blk s H scope (compEnvC scope cl C X.env) fp) ifs cond)
    (hi1 : ∀ (s : Shared) (H : Hp) (C : Addr) (cl : List (Str × Addr)) (fp : List Addr), PIv (X.blk s H scope (compEnvC scope cl C X.env) fp) tg1 iter1 it1)
    (hg1 : ∀ (s : Shared) (H : Hp) (C : Addr) (cl : List (Str × Addr)) (fp : List Addr), PGv (X.blk s H scope (compEnvC scope cl C X.env) fp) tg1 bind1 is1)
    (ht1 : ∀ (s : Shared) (H : Hp) (C : Addr) (cl : List (Str × Addr)) (fp : List Addr), PTsv (X.blk s H scope (compEnvC scope cl C X.env) fp) ifs1 cond1)
    (he : ∀ (s : Shared) (H : Hp) (C : Addr) (cl : List (Str × Addr)) (fp : List Addr), PEv (X.blk s H scope (compEnvC scope cl C X.env) fp) elt fe)
    (his : (is.all fun i => (own.map (·.2)).contains i) = true := by rfl) (his1 : (is1.all fun i => vs1.contains i) = true := by rfl) (hvs : (vs1.all fun i => (own.map (·.2)).contains i) = true := by rfl)
    (hs : ∀ x, foldedSetIterable iter X.env x = pure x := by intro _; rfl) (hs1 : ∀ env x, foldedSetIterable iter1 env x = pure x := by intro _ _; rfl) :
    PEv X (.ListComp elt [⟨tg, iter, ifs, 0⟩, ⟨tg1, iter1, ifs1, 0⟩] scope pos) (bComp2 it (own.map (·.2)) vs1 bind cond it1 bind1 cond1 fe) := by
  have hv : ∀ i ∈ vs1, i ∈ own.map (·.2) := fun i hi => by
    rw [List.all_eq_true] at hvs
    exact List.contains_iff_mem.mp (hvs i hi)
  exact PE.imp (pe_lc2 (g := tG X.K bind is) (tt := tT X.K cond) (wi1 := tIt X.K it1) (g1 := tG X.K bind1 is1) (tt1 := tT X.K cond1) (te := tE X.K (bFz fe)) hc hN hi ok hv hg ht hi1 hg1 ht1 (fun s H C cl fp => ev_fz (he s H C cl fp)) hs hs1) fun σ H Q h => read_comp2 itd_self gd_self (fun i hi => by
    rw [List.all_eq_true] at his
    exact List.contains_iff_mem.mp (his i hi)) itd_self gd_self (fun i hi => by
    rw [List.all_eq_true] at his1
    exact List.contains_iff_mem.mp (his1 i hi)) hv h
end
def enter : SV → SV
  | .own _ xs => .own true xs
  | s => s
def outs : List SV → Nat → Sl → Option (List SV)
  | [], _, _ => some []
  | .d x :: as, k, ρ => (outs as (k + 1) ρ).map fun r => .d x :: r
  | .own _ _ :: as, k, ρ => match ρ[k]? with
    | some (some (.own true ys)) => (outs as (k + 1) ρ).map fun r => .own true ys :: r
    | _ => none
def fin (fl : Fl) (ρ : Sl) : Option RV := match fl with
  | .nx => some (.d .non)
  | .rt (.d x) => some (.d x)
  | .rt (.own xs) => some (.own xs)
  | .rt (.bor i) => match ρ[i]? with
    | some (some (.own false xs)) => some (.own xs)
    | _ => none
  | _ => none
abbrev Fx := List SV → Option (RV × List SV)
def runB (n m : Nat) (body : Sx) : Fx := fun args => if args.length = m then match body (args.map some ++ List.replicate (n - args.length) none) with
  | none => none
  | some (fl, ρ) => match fin fl ρ, outs args 0 ρ with
    | some r, some as => some (r, as)
    | _, _ => none
  else none
def spV (K : PySem.W.Frag) (f : Fx) : Sp := fun vs H Q E => ∃ F G args r as, Rep K F G H (vs.map some) (args.map some) ∧ (∀ (k : Nat) (b : Bool) (xs : List D), args[k]? = some (SV.own b xs) → b = true) ∧ f args = some (r, as) ∧
  ∀ v G' H', Same G G' → Rep K F G' H' (vs.map some) (as.map some) → RR K F G' H' (vs.map some) (as.map some) r v → Q v H'
theorem at_map {α : Type} {l : List α} {i : Nat} {x : α} : At (l.map some) i x ↔ l[i]? = some x := by
  unfold At
  rw [List.getElem?_map]
  cases l[i]? with
  | none => simp
  | some y => simp
theorem at_ext {α : Type} {l : List α} {n i : Nat} {x : α} : At (l.map some ++ List.replicate n none) i x ↔ l[i]? = some x := by
  unfold At
  by_cases h : i < l.length
  · rw [List.getElem?_append_left (by simpa using h)]
    exact at_map
  · rw [List.getElem?_append_right (by simpa using h), List.getElem?_replicate]
    rw [List.getElem?_eq_none (by omega : l.length ≤ i)]
    split <;> simp
theorem Rep.start {K : PySem.W.Frag} {F : Fm} {G H : Hp} {vs : List V} {args : List SV} {n : Nat} (R : Rep K F G H (vs.map some) (args.map some)) : Rep K F G H (vs.map some ++ List.replicate n none) (args.map some ++ List.replicate n none) where
  gh := R.gh
  fh := R.fh
  fg := R.fg
  len := by have := R.len; simp at this ⊢; omega
  dat := fun i x e => by
    obtain ⟨v, h1, h2⟩ := R.dat i x (at_map.mpr (at_ext.mp e))
    exact ⟨v, at_ext.mpr (at_map.mp h1), h2⟩
  own := fun i b xs e => by
    obtain ⟨p, vs', h1, h2⟩ := R.own i b xs (at_map.mpr (at_ext.mp e))
    exact ⟨p, vs', at_ext.mpr (at_map.mp h1), h2⟩
  sep := fun i j p b c xs ys hij e1 e2 e3 e4 => R.sep i j p b c xs ys hij (at_map.mpr (at_ext.mp e1)) (at_map.mpr (at_ext.mp e2)) (at_map.mpr (at_ext.mp e3)) (at_map.mpr (at_ext.mp e4))
theorem outs_get {ρ : Sl} : ∀ {args : List SV} {k : Nat} {as : List SV}, outs args k ρ = some as → as.length = args.length ∧ (∀ (i : Nat) (x : D), as[i]? = some (SV.d x) → args[i]? = some (SV.d x)) ∧ (∀ (i : Nat) (b : Bool) (ys : List D), as[i]? = some (SV.own b ys) → b = true ∧ (∃ c xs, args[i]? = some (SV.own c xs)) ∧ oAt ρ (k + i) true ys)
  | [], k, as, e => by cases e; simp
  | .d x :: args, k, as, e => by
    obtain ⟨r, h1, h2⟩ := Option.map_eq_some_iff.mp e
    subst h2
    obtain ⟨g1, g2, g3⟩ := outs_get h1
    refine ⟨by simp [g1], fun i y q => ?_, fun i b ys q => ?_⟩
    · cases i with
      | zero => simpa using q
      | succ i => exact g2 i y (by simpa using q)
    · cases i with
      | zero => simp at q
      | succ i =>
        obtain ⟨z1, z2, z3⟩ := g3 i b ys (by simpa using q)
        exact ⟨z1, by simpa using z2, by have : k + (i + 1) = k + 1 + i := by omega
                                         rw [this]; exact z3⟩
  | .own c xs :: args, k, as, e => by
    unfold outs at e
    split at e
    rotate_left
    · cases e
    rename_i ys o
    obtain ⟨r, h1, h2⟩ := Option.map_eq_some_iff.mp e
    subst h2
    obtain ⟨g1, g2, g3⟩ := outs_get h1
    refine ⟨by simp [g1], fun i y q => ?_, fun i b zs q => ?_⟩
    · cases i with
      | zero => simp at q
      | succ i => exact g2 i y (by simpa using q)
    · cases i with
      | zero =>
        simp at q
        obtain ⟨rfl, rfl⟩ := q
        exact ⟨rfl, ⟨c, xs, rfl⟩, o⟩
      | succ i =>
        obtain ⟨z1, z2, z3⟩ := g3 i b zs (by simpa using q)
        exact ⟨z1, by simpa using z2, by have : k + (i + 1) = k + 1 + i := by omega
                                         rw [this]; exact z3⟩
theorem fn_end {K : PySem.W.Frag} {F : Fm} {G G' H H' : Hp} {vs : List V} {args as : List SV} {σ' : Sg} {ρ' : Sl} {fl : Fl} {r : RV} {v : V} (R : Rep K F G H (vs.map some) (args.map some)) (ht : ∀ (k : Nat) (b : Bool) (xs : List D), args[k]? = some (SV.own b xs) → b = true) (s : Same G G') (R' : Rep K F G' H' σ' ρ')
    (e1 : fin fl ρ' = some r) (e2 : outs args 0 ρ' = some as) (hv : match fl with | .rt q => RR K F G' H' σ' ρ' q v | _ => v = V.non) :
    Rep K F G' H' (vs.map some) (as.map some) ∧ RR K F G' H' (vs.map some) (as.map some) r v := by
  obtain ⟨g1, g2, g3⟩ := outs_get e2
  have key : ∀ k b ys, oAt (as.map some) k b ys → ∃ p, vAt (vs.map some) k (.ref p) ∧ vAt σ' k (.ref p) ∧ oAt ρ' k true ys ∧ b = true ∧ ∃ c xs, oAt (args.map some) k c xs := fun k b ys e => by
    obtain ⟨z1, ⟨c, xs, z2⟩, z3⟩ := g3 k b ys (at_map.mp e)
    have z3 : oAt ρ' k true ys := by simpa using z3
    have hc := ht k c xs z2
    obtain ⟨p, us, h1, h2, h3, h4, h5, h6⟩ := R.own k c xs (at_map.mpr z2)
    obtain ⟨p', us', k1, k2, k3, k4, k5, k6⟩ := R'.own k true ys z3
    have : p' = p := Option.some.inj ((k6 rfl).symm.trans (h6 hc))
    subst this
    exact ⟨p', h1, k1, z3, z1, c, xs, at_map.mpr z2⟩
  refine ⟨⟨R'.gh, R'.fh, R'.fg, ?_, fun i x e => ?_, fun i b xs e => ?_, fun i j p b c xs ys hij f1 f2 f3 f4 => ?_⟩, ?_⟩
  · have := R.len
    simp at this ⊢; omega
  · obtain ⟨w, h1, h2⟩ := R.dat i x (at_map.mpr (g2 i x (at_map.mp e)))
    exact ⟨w, h1, RD.mono s _ _ h2⟩
  · obtain ⟨p, h1, h2, h3, h4, _⟩ := key i b xs e
    obtain ⟨p', us', k1, k2, k3, k4, k5, k6⟩ := R'.own i true xs h3
    have : p' = p := by cases k1.inj h2; rfl
    subst this
    exact ⟨p', us', h1, k2, k3, k4, k5, fun _ => k6 rfl⟩
  · obtain ⟨_, _, _, _, _, c1, x1, o1⟩ := key i b xs f1
    obtain ⟨_, _, _, _, _, c2, x2, o2⟩ := key j c ys f2
    exact R.sep i j p c1 c2 x1 x2 hij o1 o2 f3 f4
  · cases fl with
    | nx => cases e1; exact hv
    | bk => cases e1
    | ct => cases e1
    | rt q =>
      cases q with
      | d x => cases e1; exact hv
      | own xs =>
        cases e1
        obtain ⟨q, us, rfl, h2, h3, h4, h5, h6⟩ := hv
        refine ⟨q, us, rfl, h2, h3, h4, h5, fun k b ys o1 o2 => ?_⟩
        obtain ⟨p, k1, k2, k3, k4, _⟩ := key k b ys o1
        have : p = q := by cases k1.inj o2; rfl
        subst this
        exact h6 k true ys k3 k2
      | bor i =>
        unfold fin at e1
        dsimp only at e1
        split at e1
        rotate_left
        · cases e1
        rename_i xs o
        cases e1
        have hv : vAt σ' i v := hv
        obtain ⟨q, us, h1, h2, h3, h4, h5, h6⟩ := R'.own i false xs o
        cases h1.inj hv
        refine ⟨q, us, rfl, h2, h3, h4, h5, fun k b ys o1 o2 => ?_⟩
        obtain ⟨p, k1, k2, k3, k4, _⟩ := key k b ys o1
        have : p = q := by cases k1.inj o2; rfl
        subst this
        have hik : i ≠ k := fun z => by subst z; cases At.inj o k3
        exact R'.sep i k p false true xs ys hik o k3 hv k2
section
variable {P : Program} {w : World} {K : PySem.W.Frag} {mg : Str → Option Value} {base : Heap}
theorem fn_body {N ps : List Str} {body : Sx} {vs : List V} {H : Hp} {Q : VK} {E : XK} (h : spV K (runB N.length ps.length body) vs H Q E) : tS K body { nx := fun _ H' => Q .non H', rt := Q } (L2.start N vs) H := by
  have hl : ∀ args r as, runB N.length ps.length body args = some (r, as) → args.length = ps.length := fun args r as e => by
    unfold runB at e
    split at e
    · assumption
    · cases e
  obtain ⟨F, G, args, r, as, R, ht, e, q⟩ := h
  have hlen : args.length = vs.length := by simpa using R.len
  have e' := e
  unfold runB at e
  rw [if_pos (hl args r as e')] at e
  split at e
  · cases e
  rename_i fl ρ' e1
  split at e
  rotate_left
  · cases e
  rename_i r' as' e2 e3
  cases e
  have R0 : Rep K F G H (L2.start N vs) (args.map some ++ List.replicate (N.length - args.length) none) := by
    unfold L2.start
    rw [hlen]
    exact R.start
  refine ⟨F, G, _, fl, ρ', R0, e1, fun σ' G' H' s' R' => ?_⟩
  cases fl with
  | nx =>
    obtain ⟨z1, z2⟩ := fn_end (v := .non) R ht s' R' e2 e3 rfl
    exact q .non G' H' s' z1 z2
  | bk => cases e2
  | ct => cases e2
  | rt u =>
    intro v hv
    obtain ⟨z1, z2⟩ := fn_end R ht s' R' e2 e3 hv
    exact q v G' H' s' z1 z2
theorem fn_ok {x qual : Str} {st : Stmt} {f : Addr} {fd : FuncData} {N ps : List Str} {k : Nat} {body : Sx} (F : Fun K x qual st f fd) (S : FnScope N ps (defScope st)) {g : Fx} (hg : g = runB N.length ps.length body)
    (hb : ∀ (cdv : Value) (A : Around) (outer : List Env) (s : Shared) (H : Hp) (E : XK), Room k (A.deeper (envOfC qual (defScope st) s.heap.objs.size f cdv)) →
      PBv (cxOf CX0 P w K mg base N qual (defScope st) f cdv A outer s H E).nox (defBody st) body) : FnOk P w K mg base CX0 (k + 1) f fd ps (spV K g) := by
  subst hg
  refine F.ok S (fun vs H Q E h => ?_) (fun cdv A outer s H vs Q E hr h => ⟨_, hb cdv A outer s H E hr, fn_body h⟩)
  obtain ⟨F, G, args, r, as, R, ht, e, q⟩ := h
  have := R.len
  have hl : args.length = ps.length := by
    unfold runB at e
    split at e
    · assumption
    · cases e
  rw [← hl]
  simpa using this.symm
end
end M
namespace M
open PySem PySem.Spec PyProof.Rows L2
def argOf (ρ : Sl) : RV → Option SV
  | .d x => some (.d x)
  | .own _ => none
  | .bor i => match ρ[i]? with
    | some (some (.own _ xs)) => some (.own true xs)
    | _ => none
def argsOf (ρ : Sl) : List RV → Option (List SV)
  | [] => some []
  | r :: rs => match argOf ρ r, argsOf ρ rs with
    | some x, some xs => some (x :: xs)
    | _, _ => none
def give : List RV → List SV → Sl → Option Sl
  | [], [], ρ => some ρ
  | .d _ :: rs, .d _ :: as, ρ => give rs as ρ
  | .bor i :: rs, .own _ ys :: as, ρ => match ρ[i]? with
    | some (some (.own b _)) => give rs as (ρ.set i (some (.own b ys)))
    | _ => none
  | _, _, _ => none
def bors : List RV → List Nat
  | [] => []
  | .bor i :: rs => i :: bors rs
  | _ :: rs => bors rs
def bCall (f : Fx) (fs : Ax) : Ex := fun ρ => match fs ρ with
  | none => none
  | some (rs, ρ1) => if (bors rs).Nodup then match argsOf ρ1 rs with
      | none => none
      | some args => match f args with
        | none => none
        | some (.bor _, _) => none
        | some (r, as) => (give rs as ρ1).map fun ρ2 => (r, ρ2)
    else none
theorem mem_bors {rs : List RV} {i : Nat} : i ∈ bors rs ↔ ∃ k : Nat, rs[k]? = some (RV.bor i) := by
  induction rs with
  | nil => simp [bors]
  | cons r rs ih =>
    constructor
    · intro h
      cases r with
      | bor j =>
        rcases List.mem_cons.mp (show i ∈ j :: bors rs from h) with rfl | h
        · exact ⟨0, rfl⟩
        · obtain ⟨k, hk⟩ := ih.mp h
          exact ⟨k + 1, by simpa using hk⟩
      | d x =>
        obtain ⟨k, hk⟩ := ih.mp (show i ∈ bors rs from h)
        exact ⟨k + 1, by simpa using hk⟩
      | own x =>
        obtain ⟨k, hk⟩ := ih.mp (show i ∈ bors rs from h)
        exact ⟨k + 1, by simpa using hk⟩
    · rintro ⟨k, hk⟩
      cases k with
      | zero =>
        simp at hk
        subst hk
        exact List.mem_cons_self
      | succ k =>
        have := ih.mpr ⟨k, by simpa using hk⟩
        cases r with
        | bor j => exact List.mem_cons_of_mem _ this
        | d x => exact this
        | own x => exact this
theorem bors_uniq : ∀ {rs : List RV} {i j k : Nat}, (bors rs).Nodup → rs[j]? = some (RV.bor i) → rs[k]? = some (RV.bor i) → j = k
  | [], i, j, k, h, e1, e2 => by simp at e1
  | r :: rs, i, j, k, h, e1, e2 => by
    have ht : (bors rs).Nodup := by
      cases r with
      | bor l => exact (List.nodup_cons.mp (show (l :: bors rs).Nodup from h)).2
      | d x => exact h
      | own x => exact h
    cases j with
    | zero =>
      simp at e1
      subst e1
      have hn : i ∉ bors rs := (List.nodup_cons.mp (show (i :: bors rs).Nodup from h)).1
      cases k with
      | zero => rfl
      | succ k => exact absurd (mem_bors.mpr ⟨k, by simpa using e2⟩) hn
    | succ j =>
      cases k with
      | zero =>
        simp at e2
        subst e2
        have hn : i ∉ bors rs := (List.nodup_cons.mp (show (i :: bors rs).Nodup from h)).1
        exact absurd (mem_bors.mpr ⟨j, by simpa using e1⟩) hn
      | succ k =>
        have e1 : rs[j]? = some (RV.bor i) := by simpa using e1
        have e2 : rs[k]? = some (RV.bor i) := by simpa using e2
        have := bors_uniq ht e1 e2
        rw [this]
theorem argsOf_get {ρ : Sl} : ∀ {rs : List RV} {args : List SV}, argsOf ρ rs = some args → args.length = rs.length ∧ (∀ (k : Nat) (x : D), args[k]? = some (SV.d x) → rs[k]? = some (RV.d x)) ∧
    (∀ (k : Nat) (b : Bool) (xs : List D), args[k]? = some (SV.own b xs) → b = true ∧ ∃ i c, rs[k]? = some (RV.bor i) ∧ oAt ρ i c xs)
  | [], args, e => by cases e; simp
  | r :: rs, args, e => by
    unfold argsOf at e
    split at e
    rotate_left
    · cases e
    rename_i x xs e1 e2
    cases e
    obtain ⟨g1, g2, g3⟩ := argsOf_get e2
    refine ⟨by simp [g1], fun k y q => ?_, fun k b ys q => ?_⟩
    · cases k with
      | zero =>
        simp at q
        subst q
        cases r with
        | d z => cases e1; rfl
        | own z => cases e1
        | bor i =>
          dsimp only [argOf] at e1
          split at e1 <;> cases e1
      | succ k => simpa using g2 k y (by simpa using q)
    · cases k with
      | zero =>
        simp at q
        subst q
        cases r with
        | d z => cases e1
        | own z => cases e1
        | bor i =>
          dsimp only [argOf] at e1
          split at e1
          · rename_i c zs o
            cases e1
            exact ⟨rfl, i, c, rfl, o⟩
          · cases e1
      | succ k => simpa using g3 k b ys (by simpa using q)
theorem RNs.get {K : PySem.W.Frag} {G : Hp} {σ : Sg} : ∀ {rs : List RV} {vs : List V}, RNs K G σ rs vs → vs.length = rs.length ∧ ∀ (k : Nat) (r : RV), rs[k]? = some r → ∃ v, vs[k]? = some v ∧ RN K G σ r v
  | [], vs, h => by cases h; simp
  | r :: rs, vs, ⟨x, xs, e1, e2, e3⟩ => by
    subst e1
    obtain ⟨g1, g2⟩ := RNs.get e3
    refine ⟨by simp [g1], fun k q e => ?_⟩
    cases k with
    | zero =>
      simp at e
      subst e
      exact ⟨x, rfl, e2⟩
    | succ k => simpa using g2 k q (by simpa using e)
theorem give_get : ∀ {rs : List RV} {as : List SV} {ρ ρ2 : Sl}, give rs as ρ = some ρ2 → (bors rs).Nodup → ρ2.length = ρ.length ∧ ∀ (i : Nat) (x : SV), At ρ2 i x →
    (∃ (k : Nat) (b c : Bool) (ys xs : List D), rs[k]? = some (RV.bor i) ∧ as[k]? = some (SV.own c ys) ∧ x = .own b ys ∧ oAt ρ i b xs) ∨ (i ∉ bors rs ∧ At ρ i x)
  | [], [], ρ, ρ2, e, h => by cases e; exact ⟨rfl, fun i x q => .inr ⟨by simp [bors], q⟩⟩
  | [], a :: as, ρ, ρ2, e, h => by cases e
  | .d y :: rs, [], ρ, ρ2, e, h => by cases e
  | .d y :: rs, .own _ _ :: as, ρ, ρ2, e, h => by cases e
  | .d y :: rs, .d _ :: as, ρ, ρ2, e, h => by
    obtain ⟨g1, g2⟩ := give_get (rs := rs) e h
    refine ⟨g1, fun i x q => ?_⟩
    rcases g2 i x q with ⟨k, b, c, ys, xs, h1, h2, h3⟩ | h
    · exact .inl ⟨k + 1, b, c, ys, xs, by simpa using h1, by simpa using h2, h3⟩
    · exact .inr h
  | .own _ :: rs, [], ρ, ρ2, e, h => by cases e
  | .own _ :: rs, .d _ :: as, ρ, ρ2, e, h => by cases e
  | .own _ :: rs, .own _ _ :: as, ρ, ρ2, e, h => by cases e
  | .bor j :: rs, [], ρ, ρ2, e, h => by cases e
  | .bor j :: rs, .d _ :: as, ρ, ρ2, e, h => by cases e
  | .bor j :: rs, .own c ys :: as, ρ, ρ2, e, h => by
    unfold give at e
    split at e
    rotate_left
    · cases e
    rename_i b xs o
    have hd := List.nodup_cons.mp (show (j :: bors rs).Nodup from h)
    obtain ⟨g1, g2⟩ := give_get e hd.2
    refine ⟨by rw [g1, List.length_set], fun i x q => ?_⟩
    rcases g2 i x q with ⟨k, b', c', ys', xs', h1, h2, h3, h4⟩ | ⟨h1, h2⟩
    · have hij : j ≠ i := fun z => hd.1 (mem_bors.mpr ⟨k, z ▸ h1⟩)
      rcases At.of_set h4 with ⟨z, _, _⟩ | ⟨_, h4⟩
      · exact absurd z hij
      · exact .inl ⟨k + 1, b', c', ys', xs', by simpa using h1, by simpa using h2, h3, h4⟩
    · rcases h2.of_set with ⟨rfl, z, _⟩ | ⟨z, h2⟩
      · cases z
        exact .inl ⟨0, b, c, ys, xs, rfl, rfl, rfl, o⟩
      · exact .inr ⟨fun m => by
          rcases List.mem_cons.mp (show i ∈ j :: bors rs from m) with w | w
          · exact z w.symm
          · exact h1 w, h2⟩
theorem read_call {K : PySem.W.Frag} {f : Fx} {fs : Ax} {E : XK} {σ : Sg} {H : Hp} {Q : VK} (h : tE K (bCall f fs) σ H Q) : tCall (spV K f) [] E (tAr K fs) σ H Q := by
  obtain ⟨F, G, ρ, r, ρ2, R, e, k⟩ := h
  unfold bCall at e
  split at e
  · cases e
  rename_i rs ρ1 e1
  split at e
  rotate_left
  · cases e
  rename_i hnd
  split at e
  · cases e
  rename_i args e2
  split at e
  · cases e
  · cases e
  rename_i r' as hnb e3
  obtain ⟨ρ3, e4, eq⟩ := Option.map_eq_some_iff.mp e
  cases eq
  refine ⟨F, G, ρ, rs, ρ1, R, e1, fun vs G1 H1 s1 R1 q1 => ?_⟩
  show spV K f (vs ++ []) H1 Q E
  rw [List.append_nil]
  obtain ⟨l1, a1, a2⟩ := argsOf_get e2
  obtain ⟨l2, n1⟩ := q1.get
  obtain ⟨l3, g1⟩ := give_get e4 hnd
  let A : Addr → Prop := fun p => ∃ i b xs, i ∈ bors rs ∧ oAt ρ1 i b xs ∧ vAt σ i (.ref p)
  have decA : ∀ p, Decidable (A p) := fun p => Classical.propDecidable _
  let F' : Fm := ⟨fun b => if G1 b = none ∧ ¬ A b then H1 b else none, fun j => match vs[j]? with | some (.ref p) => some p | _ => none⟩
  have fp : ∀ b o, F'.hp b = some o → G1 b = none ∧ ¬ A b ∧ H1 b = some o := fun b o q => by
    have q : (if G1 b = none ∧ ¬ A b then H1 b else none) = some o := q
    split at q
    · rename_i z; exact ⟨z.1, z.2, q⟩
    · cases q
  have pf : ∀ b o, G1 b = none → ¬ A b → H1 b = some o → F'.hp b = some o := fun b o z1 z2 z3 => by
    show (if G1 b = none ∧ ¬ A b then H1 b else none) = some o
    rw [if_pos ⟨z1, z2⟩]; exact z3
  have slot : ∀ j b xs, args[j]? = some (SV.own b xs) → b = true ∧ ∃ i c p us, rs[j]? = some (RV.bor i) ∧ oAt ρ1 i c xs ∧ vAt σ i (.ref p) ∧ vs[j]? = some (V.ref p) ∧ H1 p = some (.lst us) ∧ G1 p = none ∧ F.hp p = none ∧ RDs K G1 xs us ∧ A p := fun j b xs q => by
    obtain ⟨hb, i, c, z1, z2⟩ := a2 j b xs q
    obtain ⟨p, us, h1, h2, h3, h4, h5, h6⟩ := R1.own i c xs z2
    obtain ⟨v, w1, w2⟩ := n1 j _ z1
    have w2 : vAt σ i v := w2
    cases h1.inj w2
    exact ⟨hb, i, c, p, us, z1, z2, h1, w1, h2, h3, h4, h5, i, c, xs, mem_bors.mpr ⟨j, z1⟩, z2, h1⟩
  have R2 : Rep K F' G1 H1 (vs.map some) (args.map some) := by
    refine ⟨R1.gh, fun b o q => (fp b o q).2.2, fun b o q => (fp b o q).1, by simp [l1, l2], fun j x q => ?_, fun j b xs q => ?_, fun i j p b c xs ys hij q1 q2 q3 q4 => ?_⟩
    · obtain ⟨v, w1, w2⟩ := n1 j _ (a1 j x (at_map.mp q))
      exact ⟨v, at_map.mpr w1, w2⟩
    · obtain ⟨hb, i, c, p, us, z1, z2, z3, z4, z5, z6, z7, z8, z9⟩ := slot j b xs (at_map.mp q)
      refine ⟨p, us, at_map.mpr z4, z5, z6, ?_, z8, fun _ => ?_⟩
      · show (if G1 p = none ∧ ¬ A p then H1 p else none) = none
        rw [if_neg (fun z => z.2 z9)]
      · show (match vs[j]? with | some (.ref p) => some p | _ => none) = some p
        rw [z4]
    · obtain ⟨_, i1, c1, p1, us1, z1, z2, z3, z4, _⟩ := slot i b xs (at_map.mp q1)
      obtain ⟨_, i2, c2, p2, us2, y1, y2, y3, y4, _⟩ := slot j c ys (at_map.mp q2)
      have e1 := at_map.mp q3
      have e2 := at_map.mp q4
      rw [z4] at e1; cases e1
      rw [y4] at e2; cases e2
      have hi : i1 ≠ i2 := fun z => hij (bors_uniq hnd z1 (z ▸ y1))
      exact R1.sep i1 i2 p c1 c2 _ _ hi z2 y2 z3 y3
  refine ⟨F', G1, args, _, as, R2, fun j b xs q => (slot j b xs q).1, e3, fun v G' H' s' R' q' => ?_⟩
  have own3 : ∀ i b ys, oAt ρ2 i b ys → ∃ p us, vAt σ i (.ref p) ∧ H' p = some (.lst us) ∧ G' p = none ∧ F.hp p = none ∧ RDs K G' ys us ∧ (b = true → F.par i = some p) ∧ (∃ xs, oAt ρ1 i b xs) ∧ ((∃ j c zs, as[j]? = some (SV.own c zs) ∧ vs[j]? = some (V.ref p)) ∨ F'.hp p ≠ none) := fun i b ys q => by
    rcases g1 i _ q with ⟨j, b', c, ys', xs, h1, h2, h3, h4⟩ | ⟨h1, h2⟩
    · cases h3
      obtain ⟨p, us, k1, k2, k3, k4, k5, k6⟩ := R1.own i _ xs h4
      obtain ⟨v', w1, w2⟩ := n1 j _ h1
      have w2 : vAt σ i v' := w2
      cases k1.inj w2
      obtain ⟨p', us', m1, m2, m3, m4, m5, m6⟩ := R'.own j c ys (at_map.mpr h2)
      have e := at_map.mp m1
      rw [w1] at e; cases e
      exact ⟨p, us', k1, m2, m3, k4, m5, k6, ⟨xs, h4⟩, .inl ⟨j, c, ys, h2, w1⟩⟩
    · obtain ⟨p, us, k1, k2, k3, k4, k5, k6⟩ := R1.own i b ys h2
      have nA : ¬ A p := by
        rintro ⟨i', b', xs', w1, w2, w3⟩
        have hi : i' ≠ i := fun z => h1 (z ▸ w1)
        exact R1.sep i' i p b' b xs' ys hi w2 h2 w3 k1
      have z := pf p _ k3 nA k2
      exact ⟨p, us, k1, R'.fh p _ z, R'.fg p _ z, k4, RDs.mono s' _ _ k5, k6, ⟨ys, h2⟩, .inr (by rw [z]; simp)⟩
  refine k v G' H' (s1.trans s') ⟨R'.gh, fun b o q => ?_, fun b o q => ?_, by rw [l3]; exact R1.len, fun i x q => ?_, fun i b ys q => ?_, fun i j p b c xs ys hij q1 q2 q3 q4 => ?_⟩ ?_
  · refine R'.fh b o (pf b o (R1.fg b o q) ?_ (R1.fh b o q))
    rintro ⟨i, c, xs, w1, w2, w3⟩
    obtain ⟨p, us, k1, k2, k3, k4, _⟩ := R1.own i c xs w2
    cases k1.inj w3
    rw [k4] at q; cases q
  · refine R'.fg b o (pf b o (R1.fg b o q) ?_ (R1.fh b o q))
    rintro ⟨i, c, xs, w1, w2, w3⟩
    obtain ⟨p, us, k1, k2, k3, k4, _⟩ := R1.own i c xs w2
    cases k1.inj w3
    rw [k4] at q; cases q
  · rcases g1 i _ q with ⟨j, b', c, ys', xs, h1, h2, h3, h4⟩ | ⟨h1, h2⟩
    · cases h3
    · obtain ⟨v, w1, w2⟩ := R1.dat i x h2
      exact ⟨v, w1, RD.mono s' _ _ w2⟩
  · obtain ⟨p, us, z1, z2, z3, z4, z5, z6, _⟩ := own3 i b ys q
    exact ⟨p, us, z1, z2, z3, z4, z5, z6⟩
  · obtain ⟨_, _, _, _, _, _, _, _, ⟨xs1, o1⟩, _⟩ := own3 i b xs q1
    obtain ⟨_, _, _, _, _, _, _, _, ⟨xs2, o2⟩, _⟩ := own3 j c ys q2
    exact R1.sep i j p b c xs1 xs2 hij o1 o2 q3 q4
  · cases r with
    | d x => exact q'
    | bor i =>
      exact (hnb i rfl).elim
    | own xs =>
      obtain ⟨q, us, rfl, h2, h3, h4, h5, h6⟩ := q'
      refine ⟨q, us, rfl, h2, h3, ?_, h5, fun i b ys o1 o2 => ?_⟩
      · cases z : F.hp q with
        | none => rfl
        | some o =>
          have nA : ¬ A q := by
            rintro ⟨i, c, xs, w1, w2, w3⟩
            obtain ⟨p, us, k1, k2, k3, k4, _⟩ := R1.own i c xs w2
            cases k1.inj w3
            rw [k4] at z; cases z
          rw [pf q o (R1.fg q o z) nA (R1.fh q o z)] at h4; cases h4
      · obtain ⟨p, us', z1, z2, z3, z4, z5, z6, z7, z8⟩ := own3 i b ys o1
        cases z1.inj o2
        rcases z8 with ⟨j, c, zs, y1, y2⟩ | z8
        · exact h6 j c zs (at_map.mpr y1) (at_map.mpr y2)
        · exact z8 h4
end M
namespace M
open PySem PySem.Spec PyProof.Rows L2
def iiD (C : Int → Int → Bool) (f : Int → Int → Int) : D → D → Option RV
  | .int i, .int j => if C i j then some (.d (.int (f i j))) else none
  | _, _ => none
theorem iiD_inv {C : Int → Int → Bool} {f : Int → Int → Int} {a b : D} {z : RV} (h : iiD C f a b = some z) : ∃ i j, a = .int i ∧ b = .int j ∧ C i j = true ∧ z = .d (.int (f i j)) := by
  unfold iiD at h
  split at h
  · split at h
    · cases h; exact ⟨_, _, rfl, rfl, by assumption, rfl⟩
    · cases h
  · cases h
theorem opd_ii {K : PySem.W.Frag} {C : Int → Int → Bool} {C' : Int → Int → Prop} {f : Int → Int → Int} (hC : ∀ i j, C i j = true → C' i j) : OpD K (rI C' fun i j => .int (f i j)) (iiD C f) := by
  intro G H x y dx dy z s hx hy e Q k
  obtain ⟨i, j, rfl, rfl, c, rfl⟩ := iiD_inv e
  exact ⟨i, j, hx.int, hy.int, hC i j c, k _ _ (.same rfl)⟩
theorem opd_ii0 {K : PySem.W.Frag} {f : Int → Int → Int} : OpD K (rI0 fun i j => .int (f i j)) (iiD (fun _ _ => true) f) := by
  intro G H x y dx dy z s hx hy e Q k
  obtain ⟨i, j, rfl, rfl, c, rfl⟩ := iiD_inv e
  exact ⟨i, j, hx.int, hy.int, k _ _ (.same rfl)⟩
def ibD (f : Int → Int → Bool) : D → D → Option RV
  | .int i, .int j => some (.d (.bl (f i j)))
  | _, _ => none
theorem opd_ib {K : PySem.W.Frag} {f : Int → Int → Bool} : OpD K (rI0 fun i j => .bl (f i j)) (ibD f) := by
  intro G H x y dx dy z s hx hy e Q k
  unfold ibD at e
  split at e
  · cases e
    exact ⟨_, _, hx.int, hy.int, k _ _ (.same rfl)⟩
  · cases e
def addS : D → D → Option RV
  | .str a, .str b => if a.length + b.length ≤ 16777216 then some (.d (.str (a ++ b))) else none
  | _, _ => none
theorem str_app (a b : List Nat) : (⟨a.toArray⟩ : Str) ++ (⟨b.toArray⟩ : Str) = ⟨(a ++ b).toArray⟩ := by
  show Str.append _ _ = _
  unfold Str.append
  simp
theorem opd_addS {K : PySem.W.Frag} : OpD K (fun x y H Q => ∃ i j, x = V.str i ∧ y = .str j ∧ i.length + j.length ≤ sizeLine ∧ Q (.str (i ++ j)) H) addS := by
  intro G H x y dx dy z s hx hy e Q k
  unfold addS at e
  split at e
  · split at e
    · rename_i a b hl
      cases e
      refine ⟨_, _, hx.str, hy.str, ?_, ?_⟩
      · rw [sizeLine_num]; simpa [Str.length] using hl
      · rw [str_app]; exact k _ _ (.same rfl)
    · cases e
  · cases e
def addL : D → D → Option RV
  | .lst a, .lst b => if a.length + b.length ≤ 16777216 then some (.own (a ++ b)) else none
  | _, _ => none
theorem opd_addL {K : PySem.W.Frag} : OpD K rCat addL := by
  intro G H x y dx dy z s hx hy e Q k
  unfold addL at e
  split at e
  · split at e
    · rename_i a b hl
      cases e
      obtain ⟨p, vs, e1, e2, e3⟩ := hx.lst s
      obtain ⟨q, us, f1, f2, f3⟩ := hy.lst s
      exact ⟨p, q, vs, us, e1, f1, e2, f2, by rw [sizeLine_num, e3.length, f3.length]; exact hl, fun l hl => k _ _ (.lst hl (e3.append f3))⟩
    · cases e
  · cases e
theorem RO.rdT {K : PySem.W.Frag} {G H : Hp} {ds : List D} {v : V} (h : RO K G H (.tup ds) v) : RD K G (.tup ds) v := by
  rcases h with h | ⟨ds', p, vs, h0, h1, h2, h3⟩
  · exact h
  · cases h0
def addT : D → D → Option RV
  | .tup a, .tup b => if a.length + b.length ≤ 16777216 then some (.d (.tup (a ++ b))) else none
  | _, _ => none
theorem opd_addT {K : PySem.W.Frag} : OpD K (rCatA K) addT := by
  intro G H x y dx dy z s hx hy e Q k
  unfold addT at e
  split at e
  · split at e
    · rename_i a b hl
      cases e
      obtain ⟨p, vs, e1, e2, e3⟩ := hx.tup s
      obtain ⟨q, us, f1, f2, f3⟩ := hy.tup s
      refine ⟨p, q, vs, us, e1, f1, e2, f2, by rw [sizeLine_num, e3.length, f3.length]; exact hl, fun z => ?_, fun _ z => ?_, fun _ _ l hl => k _ _ (.tup hl (e3.append f3))⟩
      · have : a = [] := by
          have := e3.length
          rw [z] at this
          exact List.eq_nil_of_length_eq_zero this.symm
        subst this
        rw [← f1]
        exact k _ _ (.same hy.rdT)
      · have : b = [] := by
          have := f3.length
          rw [z] at this
          exact List.eq_nil_of_length_eq_zero this.symm
        subst this
        rw [List.append_nil] at k
        rw [← e1]
        exact k _ _ (.same hx.rdT)
    · cases e
  · cases e
def addD : D → D → Option RV
  | .int i, .int j => some (.d (.int (i + j)))
  | .str a, .str b => if a.length + b.length ≤ 16777216 then some (.d (.str (a ++ b))) else none
  | .lst a, .lst b => if a.length + b.length ≤ 16777216 then some (.own (a ++ b)) else none
  | .tup a, .tup b => if a.length + b.length ≤ 16777216 then some (.d (.tup (a ++ b))) else none
  | _, _ => none
theorem OpD.of {K : PySem.W.Frag} {r : R2} {g g' : D → D → Option RV} (h : OpD K r g) (e : ∀ a b z, g' a b = some z → g a b = some z) : OpD K r g' := fun G H x y dx dy z s hx hy q Q k => h G H x y dx dy z s hx hy (e dx dy z q) Q k
theorem FnD.of {K : PySem.W.Frag} {r : List V → Hp → VK → Prop} {g g' : List D → Option RV} (h : FnD K r g) (e : ∀ a z, g' a = some z → g a = some z) : FnD K r g' := fun G H x dx z s hx q Q k => h G H x dx z s hx (e dx z q) Q k
section
variable {X : Cx} {a b : Expr} {fa fb : Ex} {pos : Pos}
theorem ev_add (ha : PEv X a fa) (hb : PEv X b fb) : PEv X (.BinOp a .Add b pos) (bOp addD fa fb) :=
  ev_op (OpR.or op_add (OpR.or op_add_str (OpR.or op_cat op_catA))) (OpD.of (OpD.or opd_ii0 (OpD.or opd_addS (OpD.or opd_addL opd_addT))) fun x y z h => by
    unfold addD at h
    split at h
    · cases h; rfl
    · exact (by unfold addS; simp only [iiD]; split at h <;> simp_all)
    · exact (by unfold addS addL; simp only [iiD]; split at h <;> simp_all)
    · exact (by unfold addS addL addT; simp only [iiD]; split at h <;> simp_all)
    · cases h) ha hb
def subD : D → D → Option RV := iiD (fun _ _ => true) fun i j => i - j
theorem ev_sub (ha : PEv X a fa) (hb : PEv X b fb) : PEv X (.BinOp a .Sub b pos) (bOp subD fa fb) := ev_op op_sub opd_ii0 ha hb
def mulC (i j : Int) : Bool := decide ((-(2 ^ 64) < i ∧ i < 2 ^ 64) ∨ (-(2 ^ 64) < j ∧ j < 2 ^ 64))
def mulD : D → D → Option RV := iiD mulC fun i j => i * j
theorem ev_mul (ha : PEv X a fa) (hb : PEv X b fb) : PEv X (.BinOp a .Mult b pos) (bOp mulD fa fb) := ev_op op_mul (opd_ii fun i j h => by unfold mulC at h; have h1 := of_decide_eq_true h; exact h1) ha hb
def fdivC (i j : Int) : Bool := decide (0 < j ∧ j < 1073741824)
def fdivD : D → D → Option RV := iiD fdivC fun i j => i / j
theorem ev_fdiv (ha : PEv X a fa) (hb : PEv X b fb) : PEv X (.BinOp a .FloorDiv b pos) (bOp fdivD fa fb) := ev_op op_fdiv (opd_ii fun i j h => by unfold fdivC at h; have h1 := of_decide_eq_true h; exact h1) ha hb
def modC (i j : Int) : Bool := decide (0 < j)
def modD : D → D → Option RV := iiD modC fun i j => i % j
theorem ev_mod (ha : PEv X a fa) (hb : PEv X b fb) : PEv X (.BinOp a .Mod b pos) (bOp modD fa fb) := ev_op op_mod (opd_ii fun i j h => of_decide_eq_true h) ha hb
def powC (i j : Int) : Bool := decide (0 ≤ j ∧ j ≤ 1000000 ∧ i.natAbs < 2 ^ 64)
def powD : D → D → Option RV := iiD powC fun i j => i ^ j.toNat
theorem ev_pow (ha : PEv X a fa) (hb : PEv X b fb) : PEv X (.BinOp a .Pow b pos) (bOp powD fa fb) := ev_op op_pow (opd_ii fun i j h => by unfold powC at h; have h1 := of_decide_eq_true h; exact h1) ha hb
def negD : D → Option RV
  | .int i => some (.d (.int (-i)))
  | _ => none
theorem ev_neg (ha : PEv X a fa) : PEv X (.UnaryOp .USub a pos) (bUn negD fa) := ev_un un_neg (fun G H x dx z s hx e Q k => by
  unfold negD at e
  split at e
  · cases e; exact ⟨_, hx.int, k _ _ (.same rfl)⟩
  · cases e) ha
end
def ltD : D → D → Option RV := ibD fun i j => decide (i < j)
def leD : D → D → Option RV := ibD fun i j => decide (i ≤ j)
def gtD : D → D → Option RV := ibD fun i j => decide (j < i)
def geD : D → D → Option RV := ibD fun i j => decide (j ≤ i)
mutual
def D.py : D → PyData
  | .non => .none
  | .bl b => .bool b
  | .int i => .int i
  | .str s => .str ⟨s.toArray⟩
  | .lst xs => .list (pys xs)
  | .tup xs => .tuple (pys xs)
  | .scr xs => .list (pys xs)
  | .ins _ _ _ => .none
  | .ptr _ => .none
  | .exn _ _ _ _ => .none
  | .dct _ _ => .none
def pys : List D → List PyData
  | [] => []
  | x :: xs => D.py x :: pys xs
end
mutual
def D.ok : D → Bool
  | .non => true
  | .bl _ => true
  | .int _ => true
  | .str s => s.all (· < 1114112)
  | .lst xs => oks xs
  | .tup xs => oks xs
  | .scr xs => oks xs
  | .ins _ _ _ => false
  | .ptr _ => false
  | .exn _ _ _ _ => false
  | .dct _ _ => false
def oks : List D → Bool
  | [] => true
  | x :: xs => D.ok x && oks xs
end
mutual
def D.dep : D → Nat
  | .lst xs => deps xs + 1
  | .tup xs => deps xs + 1
  | .scr xs => deps xs + 1
  | _ => 0
def deps : List D → Nat
  | [] => 0
  | x :: xs => max (D.dep x) (deps xs)
end
def okD (d : D) : Bool := d.ok && decide (d.dep ≤ 64)
mutual
theorem py_lay : ∀ d : D, d.ok = true → d.py.canLay0 = true
  | .non, _ => rfl
  | .bl _, _ => rfl
  | .int _, _ => rfl
  | .str s, h => by
    show PyData.strOk _ = true
    unfold PyData.strOk
    simpa [D.ok] using h
  | .lst xs, h => pys_lay xs h
  | .tup xs, h => pys_lay xs h
  | .scr xs, h => pys_lay xs h
  | .ins _ _ _, h => by cases h
  | .ptr _, h => by cases h
  | .exn _ _ _ _, h => by cases h
  | .dct _ _, h => by cases h
theorem pys_lay : ∀ ds : List D, oks ds = true → PyData.canLayAll0 (pys ds) = true
  | [], _ => rfl
  | x :: xs, h => by
    have h' : x.ok = true ∧ oks xs = true := by simpa [oks] using h
    show (x.py.canLay0 && PyData.canLayAll0 (pys xs)) = true
    rw [py_lay x h'.1, pys_lay xs h'.2]; rfl
end
mutual
theorem py_dep : ∀ d : D, d.py.depth = d.dep
  | .non => rfl
  | .bl _ => rfl
  | .int _ => rfl
  | .str s => rfl
  | .lst xs => congrArg (· + 1) (pys_dep xs)
  | .tup xs => congrArg (· + 1) (pys_dep xs)
  | .scr xs => congrArg (· + 1) (pys_dep xs)
  | .ins _ _ _ => rfl
  | .ptr _ => rfl
  | .exn _ _ _ _ => rfl
  | .dct _ _ => rfl
theorem pys_dep : ∀ ds : List D, PyData.depthAll (pys ds) = deps ds
  | [] => rfl
  | x :: xs => by
    show max x.py.depth (PyData.depthAll (pys xs)) = max x.dep (deps xs)
    rw [py_dep x, pys_dep xs]
end
theorem okD_shaped {d : D} (h : okD d = true) : SeqAt.shaped d.py = true := by
  unfold okD at h
  simp only [Bool.and_eq_true, decide_eq_true_eq] at h
  unfold SeqAt.shaped
  rw [py_lay d h.1, py_dep, decide_eq_true h.2]; rfl
mutual
theorem rd_dp {K : PySem.W.Frag} {H : Hp} : ∀ (d : D) (v : V), d.ok = true → RD K H d v → Dp K H v d.py
  | .non, v, _, h => by cases h; exact .non
  | .bl b, v, _, h => by cases h; exact .bl b
  | .int i, v, _, h => by cases h; exact .int i
  | .str s, v, _, h => by cases h; exact .str _
  | .lst ds, v, o, ⟨a, xs, e1, e2, e3⟩ => by subst e1; exact .lst (SqL.of e2) (rds_dp ds xs o e3)
  | .tup ds, v, o, ⟨a, xs, e1, e2, e3⟩ => by subst e1; exact .tup e2 (rds_dp ds xs o e3)
  | .scr ds, v, o, ⟨a, xs, e1, e2, e3⟩ => by subst e1; exact .lst e2 (rds_dp ds xs o e3)
  | .ins C ns ds, v, o, _ => by cases o
  | .ptr u, v, o, _ => by cases o
  | .exn _ _ _ _, v, o, _ => by cases o
  | .dct _ _, v, o, _ => by cases o
theorem rds_dp {K : PySem.W.Frag} {H : Hp} : ∀ (ds : List D) (vs : List V), oks ds = true → RDs K H ds vs → DpAll K H vs (pys ds)
  | [], vs, _, h => by cases h; exact .nil
  | d :: ds, vs, o, ⟨x, xs, e1, e2, e3⟩ => by
    have o' : d.ok = true ∧ oks ds = true := by simpa [oks] using o
    subst e1
    exact .cons (rd_dp d x o'.1 e2) (rds_dp ds xs o'.2 e3)
end
def eqB : D → D → Option Bool
  | .non, .non => some true
  | .int i, .int j => some (decide (i = j))
  | .str a, .str b => some (decide (a = b))
  | .bl a, .bl b => some (decide (a = b))
  | .non, .str _ => some false
  | .str _, .non => some false
  | .lst a, .lst b => if okD (.lst a) && okD (.lst b) then some (PyData.eqv (D.lst a).py (D.lst b).py) else none
  | .tup a, .tup b => if okD (.tup a) && okD (.tup b) then some (PyData.eqv (D.tup a).py (D.tup b).py) else none
  | _, _ => none
def eqD (a b : D) : Option RV := (eqB a b).map fun c => .d (.bl c)
def neD (a b : D) : Option RV := (eqB a b).map fun c => .d (.bl (!c))
theorem str_dec (a b : List Nat) : decide ((V.str ⟨a.toArray⟩) = V.str ⟨b.toArray⟩) = decide (a = b) := by
  by_cases h : a = b
  · subst h; simp
  · rw [decide_eq_false h, decide_eq_false]
    intro z
    injection z with z
    injection z with z
    exact h (by simpa using z)
theorem eq_core {K : PySem.W.Frag} {G H : Hp} {x y : V} {dx dy : D} {c : Bool} (s : Same G H) (hx : RO K G H dx x) (hy : RO K G H dy y) (e : eqB dx dy = some c) :
    (scal x y = true ∧ decide (x = y) = c) ∨ (∃ d e, Dp K H x d ∧ Dp K H y e ∧ SeqAt.shaped d = true ∧ SeqAt.shaped e = true ∧ PyData.eqv d e = c) := by
  unfold eqB at e
  split at e
  · cases e; rw [hx.non, hy.non]; exact .inl ⟨rfl, rfl⟩
  · cases e; rw [hx.int, hy.int]; exact .inl ⟨rfl, by simp⟩
  · cases e; rw [hx.str, hy.str]; exact .inl ⟨rfl, str_dec _ _⟩
  · cases e; rw [hx.bl, hy.bl]; exact .inl ⟨rfl, by simp⟩
  · cases e; rw [hx.non, hy.str]; exact .inl ⟨rfl, rfl⟩
  · cases e; rw [hx.str, hy.non]; exact .inl ⟨rfl, rfl⟩
  · split at e
    · rename_i h
      cases e
      simp only [Bool.and_eq_true] at h
      have o1 := h.1
      have o2 := h.2
      unfold okD at o1 o2
      simp only [Bool.and_eq_true] at o1 o2
      exact .inr ⟨_, _, rd_dp _ _ o1.1 (hx.rd s), rd_dp _ _ o2.1 (hy.rd s), okD_shaped h.1, okD_shaped h.2, rfl⟩
    · cases e
  · split at e
    · rename_i h
      cases e
      simp only [Bool.and_eq_true] at h
      have o1 := h.1
      have o2 := h.2
      unfold okD at o1 o2
      simp only [Bool.and_eq_true] at o1 o2
      exact .inr ⟨_, _, rd_dp _ _ o1.1 (hx.rd s), rd_dp _ _ o2.1 (hy.rd s), okD_shaped h.1, okD_shaped h.2, rfl⟩
    · cases e
  · cases e
theorem opd_eq {K : PySem.W.Frag} : OpD K (fun x y H Q => rEq x y H Q ∨ rEqD K x y H Q) eqD := by
  intro G H x y dx dy z s hx hy e Q k
  obtain ⟨c, e1, e2⟩ := Option.map_eq_some_iff.mp e
  subst e2
  rcases eq_core s hx hy e1 with ⟨h1, h2⟩ | ⟨d, e, h1, h2, h3, h4, h5⟩
  · exact .inl ⟨h1, by rw [h2]; exact k _ _ (.same rfl)⟩
  · exact .inr ⟨d, e, h1, h2, h3, h4, by rw [h5]; exact k _ _ (.same rfl)⟩
theorem opd_ne {K : PySem.W.Frag} : OpD K (fun x y H Q => rNe x y H Q ∨ rNeD K x y H Q) neD := by
  intro G H x y dx dy z s hx hy e Q k
  obtain ⟨c, e1, e2⟩ := Option.map_eq_some_iff.mp e
  subst e2
  rcases eq_core s hx hy e1 with ⟨h1, h2⟩ | ⟨d, e, h1, h2, h3, h4, h5⟩
  · exact .inl ⟨h1, by rw [h2]; exact k _ _ (.same rfl)⟩
  · exact .inr ⟨d, e, h1, h2, h3, h4, by rw [h5]; exact k _ _ (.same rfl)⟩
def isB : D → D → Option Bool
  | .non, .non => some true
  | .bl a, .bl b => some (decide (a = b))
  | .int _, .non => some false
  | .str _, .non => some false
  | .bl _, .non => some false
  | .lst _, .non => some false
  | .tup _, .non => some false
  | .ins _ _ _, .non => some false
  | .dct _ _, .non => some false
  | _, _ => none
def isD (a b : D) : Option RV := (isB a b).map fun c => .d (.bl c)
def isnD (a b : D) : Option RV := (isB a b).map fun c => .d (.bl (!c))
def rIsX : R2 := fun x y H Q => (y = .non ∧ Q (.bl (decide (x = .non))) H) ∨ (∃ a b : Bool, x = .bl a ∧ y = .bl b ∧ Q (.bl (decide (a = b))) H)
theorem is_core {K : PySem.W.Frag} {G H : Hp} {x y : V} {dx dy : D} {c : Bool} (s : Same G H) (hx : RO K G H dx x) (hy : RO K G H dy y) (e : isB dx dy = some c) :
    (y = .non ∧ decide (x = .non) = c) ∨ (∃ a b : Bool, x = .bl a ∧ y = .bl b ∧ decide (a = b) = c) := by
  unfold isB at e
  split at e
  · cases e; exact .inl ⟨hy.non, by rw [hx.non]; rfl⟩
  · cases e; exact .inr ⟨_, _, hx.bl, hy.bl, rfl⟩
  · cases e; exact .inl ⟨hy.non, by rw [hx.int]; rfl⟩
  · cases e; exact .inl ⟨hy.non, by rw [hx.str]; rfl⟩
  · cases e; exact .inl ⟨hy.non, by rw [hx.bl]; rfl⟩
  · cases e
    obtain ⟨p, vs, e1, _⟩ := hx.lst s
    exact .inl ⟨hy.non, by rw [e1]; rfl⟩
  · cases e
    obtain ⟨p, vs, e1, _⟩ := hx.tup s
    exact .inl ⟨hy.non, by rw [e1]; rfl⟩
  · cases e
    obtain ⟨a, C, dx, fs, e1, _⟩ := hx.rd s
    exact .inl ⟨hy.non, by rw [e1]; rfl⟩
  · cases e
    obtain ⟨p, kvs, e1, _⟩ := hx.dct s
    exact .inl ⟨hy.non, by rw [e1]; rfl⟩
  · cases e
end M
namespace M
open PySem PySem.Spec PyProof.Rows L2
section
variable {X : Cx} {a b c e : Expr} {es : List Expr} {fa fb fc : Ex} {fs : Ax} {pos : Pos}
def rIsOr : R2 := fun x y H Q => (y = .non ∧ Q (.bl (decide (x = .non))) H) ∨ rIsB x y H Q
def rIsnOr : R2 := fun x y H Q => (y = .non ∧ Q (.bl (!decide (x = .non))) H) ∨ rNotB x y H Q
theorem opd_is {K : PySem.W.Frag} : OpD K rIsOr isD := by
  intro G H x y dx dy z s hx hy e Q k
  obtain ⟨c, e1, e2⟩ := Option.map_eq_some_iff.mp e
  subst e2
  rcases is_core s hx hy e1 with ⟨h1, h2⟩ | ⟨a, b, h1, h2, h3⟩
  · exact .inl ⟨h1, by rw [h2]; exact k _ _ (.same rfl)⟩
  · exact .inr ⟨a, b, h1, h2, by rw [h3]; exact k _ _ (.same rfl)⟩
theorem opd_isn {K : PySem.W.Frag} : OpD K rIsnOr isnD := by
  intro G H x y dx dy z s hx hy e Q k
  obtain ⟨c, e1, e2⟩ := Option.map_eq_some_iff.mp e
  subst e2
  rcases is_core s hx hy e1 with ⟨h1, h2⟩ | ⟨a, b, h1, h2, h3⟩
  · exact .inl ⟨h1, by rw [h2]; exact k _ _ (.same rfl)⟩
  · exact .inr ⟨a, b, h1, h2, by rw [h3]; exact k _ _ (.same rfl)⟩
theorem op_isX : OpR X (compareOp .Is) rIsOr := OpR.or op_isN op_isBl
theorem op_isnX : OpR X (compareOp .IsNot) rIsnOr := OpR.or op_notN op_notBl
def flatD : D → Bool
  | .non => true
  | .bl _ => true
  | .int _ => true
  | .str _ => true
  | _ => false
def toV : D → V
  | .non => .non
  | .bl b => .bl b
  | .int i => .int i
  | .str s => .str ⟨s.toArray⟩
  | _ => .non
theorem rd_flat {K : PySem.W.Frag} {H : Hp} {d : D} {v : V} (h : flatD d = true) (r : RD K H d v) : v = toV d ∧ flatV v = true := by
  cases d with
  | non => cases r; exact ⟨rfl, rfl⟩
  | bl b => cases r; exact ⟨rfl, rfl⟩
  | int i => cases r; exact ⟨rfl, rfl⟩
  | str s => cases r; exact ⟨rfl, rfl⟩
  | _ => cases h
theorem rds_flat {K : PySem.W.Frag} {H : Hp} : ∀ {ds : List D} {vs : List V}, ds.all flatD = true → RDs K H ds vs → vs = ds.map toV ∧ vs.all flatV = true
  | [], vs, _, h => by cases h; exact ⟨rfl, rfl⟩
  | d :: ds, vs, h, ⟨x, xs, e1, e2, e3⟩ => by
    have h' : flatD d = true ∧ ds.all flatD = true := by simpa using h
    obtain ⟨g1, g2⟩ := rd_flat h'.1 e2
    obtain ⟨g3, g4⟩ := rds_flat h'.2 e3
    subst e1
    exact ⟨by rw [g1, g3]; rfl, by simp [g2, g4]⟩
def memB (x : D) (xs : List D) : Bool := inV (toV x) (xs.map toV)
def inB : D → D → Option Bool
  | .str [c], .str s => some (decide (c ∈ s))
  | x, .tup xs => if flatD x && xs.all flatD then some (memB x xs) else none
  | x, .lst xs => if flatD x && xs.all flatD then some (memB x xs) else none
  | _, _ => none
def inD (a b : D) : Option RV := (inB a b).map fun c => .d (.bl c)
def ninD (a b : D) : Option RV := (inB a b).map fun c => .d (.bl (!c))
theorem in_core {K : PySem.W.Frag} {G H : Hp} {x y : V} {dx dy : D} {k : Bool} (s : Same G H) (hx : RO K G H dx x) (hy : RO K G H dy y) (e : inB dx dy = some k) :
    (∃ (c : Nat) (z : Str), x = .str ⟨#[c]⟩ ∧ y = .str z ∧ decide (c ∈ z.cps.toList) = k) ∨ (∃ p xs, y = .ref p ∧ (SqL K H p xs ∨ SqT K H p xs) ∧ flatV x = true ∧ xs.all flatV = true ∧ inV x xs = k) := by
  unfold inB at e
  split at e
  · rename_i c s'
    cases e
    exact .inl ⟨c, ⟨s'.toArray⟩, hx.str, hy.str, by simp⟩
  · split at e
    · rename_i xs h
      cases e
      simp only [Bool.and_eq_true] at h
      obtain ⟨p, vs, e1, e2, e3⟩ := hy.tup s
      obtain ⟨g1, g2⟩ := rd_flat h.1 (hx.rd s)
      obtain ⟨g3, g4⟩ := rds_flat h.2 e3
      exact .inr ⟨p, vs, e1, .inr e2, g2, g4, by rw [g1, g3]; rfl⟩
    · cases e
  · split at e
    · rename_i xs h
      cases e
      simp only [Bool.and_eq_true] at h
      obtain ⟨p, vs, e1, e2, e3⟩ := hy.lst s
      obtain ⟨g1, g2⟩ := rd_flat h.1 (hx.rd s)
      obtain ⟨g3, g4⟩ := rds_flat h.2 e3
      exact .inr ⟨p, vs, e1, .inl (SqL.of e2), g2, g4, by rw [g1, g3]; rfl⟩
    · cases e
  · cases e
theorem opd_in {K : PySem.W.Frag} : OpD K (fun x y H Q => (∃ (c : Nat) (z : Str), x = .str ⟨#[c]⟩ ∧ y = .str z ∧ Q (.bl (decide (c ∈ z.cps.toList))) H) ∨ rIn K false x y H Q) inD := by
  intro G H x y dx dy z s hx hy e Q k
  obtain ⟨c, e1, e2⟩ := Option.map_eq_some_iff.mp e
  subst e2
  rcases in_core s hx hy e1 with ⟨c', z, h1, h2, h3⟩ | ⟨p, xs, h1, h2, h3, h4, h5⟩
  · exact .inl ⟨c', z, h1, h2, by rw [h3]; exact k _ _ (.same rfl)⟩
  · exact .inr ⟨p, xs, h1, h2, h3, h4, by rw [h5]; exact k _ _ (.same rfl)⟩
theorem opd_nin {K : PySem.W.Frag} : OpD K (fun x y H Q => (∃ (c : Nat) (z : Str), x = .str ⟨#[c]⟩ ∧ y = .str z ∧ Q (.bl (!decide (c ∈ z.cps.toList))) H) ∨ rIn K true x y H Q) ninD := by
  intro G H x y dx dy z s hx hy e Q k
  obtain ⟨c, e1, e2⟩ := Option.map_eq_some_iff.mp e
  subst e2
  rcases in_core s hx hy e1 with ⟨c', z, h1, h2, h3⟩ | ⟨p, xs, h1, h2, h3, h4, h5⟩
  · exact .inl ⟨c', z, h1, h2, by rw [h3]; exact k _ _ (.same rfl)⟩
  · exact .inr ⟨p, xs, h1, h2, h3, h4, by rw [h5]; exact k _ _ (.same rfl)⟩
theorem op_inX : OpR X (compareOp .In) (fun x y H Q => (∃ (c : Nat) (z : Str), x = .str ⟨#[c]⟩ ∧ y = .str z ∧ Q (.bl (decide (c ∈ z.cps.toList))) H) ∨ rIn X.K false x y H Q) := OpR.or op_in_sign op_in_seq
theorem op_ninX : OpR X (compareOp .NotIn) (fun x y H Q => (∃ (c : Nat) (z : Str), x = .str ⟨#[c]⟩ ∧ y = .str z ∧ Q (.bl (!decide (c ∈ z.cps.toList))) H) ∨ rIn X.K true x y H Q) := OpR.or op_notIn_sign op_notIn_seq
theorem op_eqX (hu : X.A.units + 64 < cLine) : OpR X (compareOp .Eq) (fun x y H Q => rEq x y H Q ∨ rEqD X.K x y H Q) := OpR.or op_eq (op_eqD hu)
theorem op_neX (hu : X.A.units + 64 < cLine) : OpR X (compareOp .NotEq) (fun x y H Q => rNe x y H Q ∨ rNeD X.K x y H Q) := OpR.or op_ne (op_neD hu)
def bChain (g g' : D → D → Option RV) (fa fb fc : Ex) : Ex := fun ρ => match fa ρ with
  | some (.d x, ρ1) => match fb ρ1 with
    | some (.d y, ρ2) => match g x y with
      | some (.d (.bl true)) => match fc ρ2 with
        | some (.d z, ρ3) => (g' y z).map fun r => (r, ρ3)
        | _ => none
      | some (.d (.bl false)) => some (.d (.bl false), ρ2)
      | _ => none
    | _ => none
  | _ => none
theorem read_chain {K : PySem.W.Frag} {g g' : D → D → Option RV} {r r' : R2} (hg : OpD K r g) (hg' : OpD K r' g') {σ : Sg} {H : Hp} {Q : VK} (h : tE K (bChain g g' fa fb fc) σ H Q) : tChain r r' (tE K fa) (tE K fb) (tE K fc) σ H Q := by
  obtain ⟨F, G, ρ, z, ρ', R, e, k⟩ := h
  unfold bChain at e
  split at e
  rotate_left
  · cases e
  rename_i dx ρ1 e1
  split at e
  rotate_left
  · cases e
  rename_i dy ρ2 e2
  refine ⟨F, G, ρ, _, ρ1, R, e1, fun x G1 H1 s1 R1 q1 => ⟨F, G1, ρ1, _, ρ2, R1, e2, fun y G2 H2 s2 R2 q2 => ?_⟩⟩
  have rx : RO K G2 H2 dx x := .inl (RD.mono s2 _ _ q1)
  have ry : RO K G2 H2 dy y := .inl q2
  split at e
  · rename_i e3
    refine hg G2 H2 x y dx dy _ R2.gh rx ry e3 _ fun v H3 hz => ?_
    cases hz with
    | same hv =>
      refine ⟨true, hv, iteT ?_⟩
      split at e
      rotate_left
      · cases e
      rename_i dz ρ3 e4
      obtain ⟨z', ez, eq⟩ := Option.map_eq_some_iff.mp e
      cases eq
      refine ⟨F, G2, ρ2, _, _, R2, e4, fun w G4 H4 s4 R4 q4 => ?_⟩
      refine hg' G4 H4 y w dy dz _ R4.gh (.inl (RD.mono s4 _ _ q2)) (.inl q4) ez Q fun u H5 hz => ?_
      obtain ⟨G5, t5, R5, q5⟩ := rz_done R4 hz
      exact k u G5 H5 (((s1.trans s2).trans s4).trans t5) R5 q5
  · rename_i e3
    cases e
    refine hg G2 H2 x y dx dy _ R2.gh rx ry e3 _ fun v H3 hz => ?_
    cases hz with
    | same hv => exact ⟨false, hv, iteF (k _ G2 H2 (s1.trans s2) R2 rfl)⟩
  · cases e
theorem ev_chain {op op' : CmpOp} {r r' : R2} {g g' : D → D → Option RV} (ho : OpR X (compareOp op) r) (ho' : OpR X (compareOp op') r') (hg : OpD X.K r g) (hg' : OpD X.K r' g') (ha : PEv X a fa) (hb : PEv X b fb) (hc : PEv X c fc)
    (hm : lastMarks [op, op'] [b, c] = false := by with_unfolding_all rfl) : PEv X (.Compare a [op, op'] [b, c] pos) (bChain g g' fa fb fc) := PE.imp (pe_chain ho ho' ha hb hc hm) fun σ H Q h => read_chain hg hg' h
theorem tv_chain {op op' : CmpOp} {r r' : R2} {g g' : D → D → Option RV} (ho : OpR X (compareOp op) r) (ho' : OpR X (compareOp op') r') (hg : OpD X.K r g) (hg' : OpD X.K r' g') (ha : PEv X a fa) (hb : PEv X b fb) (hc : PEv X c fc)
    (hm : lastMarks [op, op'] [b, c] = false := by with_unfolding_all rfl) : PTv X (.Compare a [op, op'] [b, c] pos) (bT (bChain g g' fa fb fc)) := PT.imp (pt_chain ho ho' ha hb hc hm) fun σ H Q h => by
  exact read_chain hg hg' (Q := fun x H1 => ∃ c, x = .bl c ∧ Q c H1) (readT h)
def ixD : D → D → Option RV
  | .lst xs, .int i => (atI xs i).map .d
  | .tup xs, .int i => (atI xs i).map .d
  | .scr xs, .int i => (atI xs i).map .d
  | .str s, .int i => if s.length ≤ 16777216 then (atI s i).map fun c => .d (.str [c]) else none
  | _, _ => none
theorem atI_rds {K : PySem.W.Frag} {G : Hp} {ds : List D} {vs : List V} {i : Int} {d : D} (h : RDs K G ds vs) (e : atI ds i = some d) : ∃ v, atI vs i = some v ∧ RD K G d v := by
  unfold atI at *
  obtain ⟨j, h1, h2⟩ := Option.bind_eq_some_iff.mp e
  obtain ⟨v, h3, h4⟩ := h.get h2
  exact ⟨v, Option.bind_eq_some_iff.mpr ⟨j, by rw [h.length]; exact h1, h3⟩, h4⟩
theorem opd_ix {K : PySem.W.Frag} : OpD K (rIx K) ixD := by
  intro G H x y dx dy z s hx hy e Q k
  unfold ixD at e
  split at e
  · obtain ⟨d, e1, e2⟩ := Option.map_eq_some_iff.mp e
    subst e2
    obtain ⟨p, vs, f1, f2, f3⟩ := hx.lst s
    obtain ⟨v, g1, g2⟩ := atI_rds f3 e1
    exact .inl ⟨p, vs, _, v, f1, hy.int, SqL.of f2, g1, k _ _ (.same g2)⟩
  · obtain ⟨d, e1, e2⟩ := Option.map_eq_some_iff.mp e
    subst e2
    obtain ⟨p, vs, f1, f2, f3⟩ := hx.tup s
    obtain ⟨v, g1, g2⟩ := atI_rds f3 e1
    exact .inr (.inl ⟨p, vs, _, v, f1, hy.int, f2, g1, k _ _ (.same g2)⟩)
  · obtain ⟨d, e1, e2⟩ := Option.map_eq_some_iff.mp e
    subst e2
    obtain ⟨p, vs, f1, f2, f3⟩ := hx.scr s
    obtain ⟨v, g1, g2⟩ := atI_rds f3 e1
    exact .inl ⟨p, vs, _, v, f1, hy.int, f2, g1, k _ _ (.same g2)⟩
  · split at e
    rotate_left
    · cases e
    rename_i hl
    obtain ⟨c, e1, e2⟩ := Option.map_eq_some_iff.mp e
    subst e2
    exact .inr (.inr ⟨_, _, c, hx.str, hy.int, by rw [sizeLine_num]; simpa [Str.length] using hl, e1, k _ _ (.same rfl)⟩)
  · cases e
theorem ev_item (hs : PlainIx b) (ha : PEv X a fa) (hb : PEv X b fb) : PEv X (.Subscript a b pos) (bOp ixD fa fb) := ev_ix ix_seq opd_ix hs ha hb
abbrev Ox := Sl → Option (Option Int × Sl)
def oNone : Ox := fun ρ => some (none, ρ)
def oSome (f : Ex) : Ox := fun ρ => match f ρ with
  | some (.d (.int i), ρ1) => some (some i, ρ1)
  | _ => none
def tOx (K : PySem.W.Frag) (f : Ox) : TO := fun σ H Q => ∃ F G ρ r ρ', Rep K F G H σ ρ ∧ f ρ = some (r, ρ') ∧ ∀ G' H', Same G G' → Rep K F G' H' σ ρ' → Q r H'
def POv (X : Cx) (e : Option Expr) (f : Ox) : Prop := PO X e (tOx X.K f)
theorem ov_none : POv X none oNone := ⟨fun pins s σ H Q I h => by
  obtain ⟨F, G, ρ, r, ρ', R, e, k⟩ := h
  cases e
  exact po_none.run pins s σ H Q I (k G H (Same.refl G) R)⟩
theorem ov_some (h : PEv X e fa) : POv X (some e) (oSome fa) := ⟨fun pins s σ H Q I hw => by
  obtain ⟨F, G, ρ, r, ρ', R, q, k⟩ := hw
  unfold oSome at q
  split at q
  · rename_i i ρ1 e1
    cases q
    exact (po_some h).run pins s σ H Q I ⟨F, G, ρ, _, _, R, e1, fun v G1 H1 s1 R1 q1 => ⟨i, q1, k G1 H1 s1 R1⟩⟩
  · cases q⟩
def cutL {α : Type} (xs : List α) (lo hi : Option Int) : List α := (xs.drop (HT.sIx xs.length 0 lo)).take (HT.sIx xs.length xs.length hi - HT.sIx xs.length 0 lo)
def slD (x : D) (lo hi : Option Int) : Option RV := match x with
  | .lst xs => some (.own (cutL xs lo hi))
  | .scr xs => some (.own (cutL xs lo hi))
  | .tup xs => some (.d (.tup (cutL xs lo hi)))
  | .str s => if s.length ≤ 16777216 then some (.d (.str (cutL s lo hi))) else none
  | _ => none
def bSl (fa : Ex) (fl fh : Ox) : Ex := fun ρ => match fa ρ with
  | none => none
  | some (ra, ρ1) => match fl ρ1 with
    | none => none
    | some (lo, ρ2) => match fh ρ2 with
      | none => none
      | some (hi, ρ3) => match pk ρ3 ra.nrm with
        | none => none
        | some x => (slD x lo hi).map fun z => (z, ρ3)
theorem cut_rds {K : PySem.W.Frag} {G : Hp} {ds : List D} {vs : List V} (h : RDs K G ds vs) (lo hi : Option Int) : RDs K G (cutL ds lo hi) (cutV vs lo hi) := by
  unfold cutL cutV
  rw [h.length]
  exact (h.drop _).take _
def rSlX2 (K : PySem.W.Frag) : V → Option Int → Option Int → Hp → VK → Prop := fun x lo hi H Q => rSlL K x lo hi H Q ∨ (rSlA K x lo hi H Q ∨ rSlS x lo hi H Q)
theorem sl_all : SlR X (rSlX2 X.K) := SlR.or sl_list (SlR.or sl_tupA sl_str)
theorem sld {K : PySem.W.Frag} {G H : Hp} {x : V} {dx : D} {lo hi : Option Int} {z : RV} (s : Same G H) (hx : RO K G H dx x) (e : slD dx lo hi = some z) (Q : VK) (k : ∀ v H', RZ K G H z v H' → Q v H') : rSlX2 K x lo hi H Q := by
  unfold slD at e
  split at e
  · cases e
    obtain ⟨p, vs, f1, f2, f3⟩ := hx.lst s
    exact .inl ⟨p, vs, f1, SqL.of f2, fun q hq => k _ _ (.lst hq (cut_rds f3 lo hi))⟩
  · cases e
    obtain ⟨p, vs, f1, f2, f3⟩ := hx.scr s
    exact .inl ⟨p, vs, f1, f2, fun q hq => k _ _ (.lst hq (cut_rds f3 lo hi))⟩
  · cases e
    rename_i xs
    obtain ⟨p, vs, f1, f2, f3⟩ := hx.tup s
    refine .inr (.inl ⟨p, vs, f1, f2, fun hz => ?_, fun _ q hq => k _ _ (.tup hq (cut_rds f3 lo hi))⟩)
    have : cutL xs lo hi = xs := by
      unfold cutL
      rw [f3.length] at hz
      rw [hz.1, hz.2]; simp
    rw [this] at k
    rw [← f1]
    exact k _ _ (.same hx.rdT)
  · split at e
    rotate_left
    · cases e
    rename_i s' hl
    cases e
    refine .inr (.inr ⟨_, hx.str, by rw [sizeLine_num]; simpa [Str.length] using hl, ?_⟩)
    have : cutS ⟨s'.toArray⟩ lo hi = ⟨(cutL s' lo hi).toArray⟩ := by
      unfold cutS cutL
      simp [Str.length]
    rw [this]
    exact k _ _ (.same rfl)
  · cases e
theorem ev_slice {lo hi : Option Expr} {p2 : Pos} {fl fh : Ox} (ha : PEv X a fa) (hl : POv X lo fl) (hh : POv X hi fh) : PEv X (.Subscript a (.Slice lo hi none p2) pos) (bSl fa fl fh) := PE.imp (pe_slice sl_all ha hl hh) fun σ H Q h => by
  obtain ⟨F, G, ρ, r, ρ', R, q, k⟩ := h
  unfold bSl at q
  split at q
  · cases q
  rename_i ra ρ1 e1
  split at q
  · cases q
  rename_i lo' ρ2 e2
  split at q
  · cases q
  rename_i hi' ρ3 e3
  split at q
  · cases q
  rename_i x e4
  obtain ⟨z, ez, eq⟩ := Option.map_eq_some_iff.mp q
  cases eq
  refine ⟨F, G, ρ, ra, ρ1, R, e1, fun v G1 H1 s1 R1 q1 => ?_⟩
  obtain ⟨G1', t1, R1', n1⟩ := nrm_step R1 q1
  refine ⟨F, G1', ρ1, lo', ρ2, R1', e2, fun G2 H2 s2 R2 => ⟨F, G2, ρ2, hi', _, R2, e3, fun G3 H3 s3 R3 => ?_⟩⟩
  refine sld R3.gh (pk_ro R3 (n1.mono (s2.trans s3)) e4) ez Q fun w H4 hz => ?_
  obtain ⟨G4, t4, R4, q4⟩ := rz_done R3 hz
  exact k w G4 H4 ((((s1.trans t1).trans s2).trans s3).trans t4) R4 q4
def bTupE (fs : Ax) : Ex := fun ρ => match fs ρ with
  | none => none
  | some (rs, ρ1) => match dsOf rs with
    | none => none
    | some ds => if ds.length ≤ 16777216 then some (.d (.tup ds), ρ1) else none
def bLstE (fs : Ax) : Ex := fun ρ => match fs ρ with
  | none => none
  | some (rs, ρ1) => match dsOf rs with
    | none => none
    | some ds => if ds.length ≤ 16777216 then some (.own ds, ρ1) else none
theorem ev_tup {j : Nat} (h : PAv X es fs) (hp : PE X (.Tuple es j pos) (tTup (tAr X.K fs))) : PEv X (.Tuple es j pos) (bTupE fs) := PE.imp hp fun σ H Q h => by
  obtain ⟨F, G, ρ, r, ρ', R, q, k⟩ := h
  unfold bTupE at q
  split at q
  · cases q
  rename_i rs ρ1 e1
  split at q
  · cases q
  rename_i ds e2
  split at q
  rotate_left
  · cases q
  rename_i hl
  cases q
  refine ⟨F, G, ρ, rs, _, R, e1, fun vs G1 H1 s1 R1 q1 => ?_⟩
  have hr := ds_of q1 e2
  refine ⟨by rw [sizeLine_num, hr.length]; exact hl, fun p hp => ?_⟩
  obtain ⟨G2, t2, R2, q2⟩ := rz_done R1 (RZ.tup (G := G1) hp hr)
  exact k _ G2 _ (s1.trans t2) R2 q2
theorem ev_lst (h : PAv X es fs) (hp : PE X (.List es pos) (tLst (tAr X.K fs))) : PEv X (.List es pos) (bLstE fs) := PE.imp hp fun σ H Q h => by
  obtain ⟨F, G, ρ, r, ρ', R, q, k⟩ := h
  unfold bLstE at q
  split at q
  · cases q
  rename_i rs ρ1 e1
  split at q
  · cases q
  rename_i ds e2
  split at q
  rotate_left
  · cases q
  rename_i hl
  cases q
  refine ⟨F, G, ρ, rs, _, R, e1, fun vs G1 H1 s1 R1 q1 => ?_⟩
  have hr := ds_of q1 e2
  refine ⟨by rw [sizeLine_num, hr.length]; exact hl, fun p hp => ?_⟩
  obtain ⟨G2, t2, R2, q2⟩ := rz_done R1 (RZ.lst (G := G1) hp hr)
  exact k _ G2 _ (s1.trans t2) R2 q2
end
end M
namespace M
open PySem PySem.Spec PyProof.Rows L2 TL
section
variable {X : Cx} {a b c e : Expr} {es : List Expr} {fa fb fc : Ex} {fs : Ax} {pos p : Pos} {x : Str} {id : String}
theorem ev_fn {r : List V → Hp → VK → Prop} {g : List D → Option RV} (hc : CallR X (.builtin id) r) (hd : FnD X.K r g) (hg : Gl X x) (hm : X.mg x = none) (hv : bootBuiltins x = some (.builtin id)) (h : PAv X (e :: es) fs) (hn : x ≠ "__name__" := by decide) (hdb : (x == ("__debug__" : Str)) = false := by decide)
    (he : starEach (e :: es) X.env = (false, eval e X.env) :: starEach es X.env := by rfl) (hpl : (backTo pos (starEach es X.env)).any (·.1) = false := by rfl) : PEv X (.Call (.Name x p) (e :: es) [] pos) (bFn g fs) :=
  PE.imp (pe_callB hc hg hm hv h hn hdb he hpl) fun _ _ _ q => readA hd q
theorem ev_ty {T : String} {r : List V → Hp → VK → Prop} {g : List D → Option RV} (hc : CallR X (.type T) r) (hd : FnD X.K r g) (hg : Gl X x) (hm : X.mg x = none) (hv : bootBuiltins x = some (.type T)) (h : PAv X (e :: es) fs) (hn : x ≠ "__name__" := by decide) (hdb : (x == ("__debug__" : Str)) = false := by decide)
    (he : starEach (e :: es) X.env = (false, eval e X.env) :: starEach es X.env := by rfl) (hpl : (backTo pos (starEach es X.env)).any (·.1) = false := by rfl) : PEv X (.Call (.Name x p) (e :: es) [] pos) (bFn g fs) :=
  PE.imp (pe_callTy hc hg hm hv h hn hdb he hpl) fun _ _ _ q => readA hd q
end
theorem ros1 {K : PySem.W.Frag} {G H : Hp} {d : D} {vs : List V} (h : ROs K G H [d] vs) : ∃ v, vs = [v] ∧ RO K G H d v := by
  obtain ⟨x, xs, e1, e2, e3⟩ := h
  cases e3
  exact ⟨x, e1, e2⟩
theorem ros2 {K : PySem.W.Frag} {G H : Hp} {d d' : D} {vs : List V} (h : ROs K G H [d, d'] vs) : ∃ v w, vs = [v, w] ∧ RO K G H d v ∧ RO K G H d' w := by
  obtain ⟨x, xs, e1, e2, y, ys, e3, e4, e5⟩ := h
  cases e5
  subst e3
  exact ⟨x, y, e1, e2, e4⟩
def lenD : List D → Option RV
  | [.str s] => if s.length ≤ 16777216 then some (.d (.int s.length)) else none
  | [.lst xs] => some (.d (.int xs.length))
  | [.tup xs] => some (.d (.int xs.length))
  | [.scr xs] => some (.d (.int xs.length))
  | _ => none
theorem fnd_len {K : PySem.W.Frag} : FnD K (fun xs H Q => ∃ (x : V) (n : Nat), xs = [x] ∧ LenV K x H n ∧ Q (.int n) H) lenD := by
  intro G H xs ds z s hx e Q k
  unfold lenD at e
  split at e
  · split at e
    · rename_i s' hl
      cases e
      obtain ⟨v, rfl, r⟩ := ros1 hx
      rw [r.str]
      exact ⟨_, s'.length, rfl, ⟨by rw [sizeLine_num]; simpa [Str.length] using hl, by simp [Str.length]⟩, k _ _ (.same rfl)⟩
    · cases e
  · rename_i ys
    cases e
    obtain ⟨v, rfl, r⟩ := ros1 hx
    obtain ⟨p, vs, e1, e2, e3⟩ := r.lst s
    subst e1
    exact ⟨_, ys.length, rfl, .inl ⟨vs, SqL.of e2, e3.length.symm⟩, k _ _ (.same rfl)⟩
  · rename_i ys
    cases e
    obtain ⟨v, rfl, r⟩ := ros1 hx
    obtain ⟨p, vs, e1, e2, e3⟩ := r.tup s
    subst e1
    exact ⟨_, ys.length, rfl, .inr ⟨vs, e2, e3.length.symm⟩, k _ _ (.same rfl)⟩
  · rename_i ys
    cases e
    obtain ⟨v, rfl, r⟩ := ros1 hx
    obtain ⟨p, vs, e1, e2, e3⟩ := r.scr s
    subst e1
    exact ⟨_, ys.length, rfl, .inl ⟨vs, e2, e3.length.symm⟩, k _ _ (.same rfl)⟩
  · cases e
def absD : List D → Option RV
  | [.int i] => some (.d (.int (if i < 0 then -i else i)))
  | _ => none
theorem fnd_abs {K : PySem.W.Frag} : FnD K (fun xs H Q => ∃ i : Int, xs = [V.int i] ∧ Q (.int (if i < 0 then -i else i)) H) absD := by
  intro G H xs ds z s hx e Q k
  unfold absD at e
  split at e
  · cases e
    obtain ⟨v, rfl, r⟩ := ros1 hx
    exact ⟨_, by rw [r.int], k _ _ (.same rfl)⟩
  · cases e
def intD : List D → Option RV
  | [.int i] => some (.d (.int i))
  | [.bl b] => some (.d (.int (if b then 1 else 0)))
  | _ => none
theorem fnd_int {K : PySem.W.Frag} : FnD K (fun xs H Q => (∃ i : Int, xs = [V.int i] ∧ Q (.int i) H) ∨ ∃ k : Bool, xs = [V.bl k] ∧ Q (.int (if k then 1 else 0)) H) intD := by
  intro G H xs ds z s hx e Q k
  unfold intD at e
  split at e
  · cases e
    obtain ⟨v, rfl, r⟩ := ros1 hx
    exact .inl ⟨_, by rw [r.int], k _ _ (.same rfl)⟩
  · cases e
    obtain ⟨v, rfl, r⟩ := ros1 hx
    exact .inr ⟨_, by rw [r.bl], k _ _ (.same rfl)⟩
  · cases e
def intsOf : List D → Option (List Int)
  | [] => some []
  | .int i :: ds => (intsOf ds).map fun r => i :: r
  | _ => none
theorem ints_rds {K : PySem.W.Frag} {H : Hp} : ∀ {ds : List D} {vs : List V} {ns : List Int}, intsOf ds = some ns → RDs K H ds vs → vs = ns.map V.int
  | [], vs, ns, e, h => by cases e; cases h; rfl
  | .int i :: ds, vs, ns, e, ⟨x, xs, e1, e2, e3⟩ => by
    obtain ⟨r, h1, h2⟩ := Option.map_eq_some_iff.mp e
    subst h2
    cases e2
    rw [e1, ints_rds h1 e3]; rfl
  | .non :: ds, vs, ns, e, _ => by cases e
  | .bl _ :: ds, vs, ns, e, _ => by cases e
  | .str _ :: ds, vs, ns, e, _ => by cases e
  | .lst _ :: ds, vs, ns, e, _ => by cases e
  | .tup _ :: ds, vs, ns, e, _ => by cases e
  | .scr _ :: ds, vs, ns, e, _ => by cases e
  | .ins _ _ _ :: ds, vs, ns, e, _ => by cases e
  | .ptr _ :: ds, vs, ns, e, _ => by cases e
  | .exn _ _ _ _ :: ds, vs, ns, e, _ => by cases e
def boolsOf : List D → Option (List Bool)
  | [] => some []
  | .bl i :: ds => (boolsOf ds).map fun r => i :: r
  | _ => none
theorem bools_rds {K : PySem.W.Frag} {H : Hp} : ∀ {ds : List D} {vs : List V} {ns : List Bool}, boolsOf ds = some ns → RDs K H ds vs → vs = ns.map V.bl
  | [], vs, ns, e, h => by cases e; cases h; rfl
  | .bl i :: ds, vs, ns, e, ⟨x, xs, e1, e2, e3⟩ => by
    obtain ⟨r, h1, h2⟩ := Option.map_eq_some_iff.mp e
    subst h2
    cases e2
    rw [e1, bools_rds h1 e3]; rfl
  | .non :: ds, vs, ns, e, _ => by cases e
  | .int _ :: ds, vs, ns, e, _ => by cases e
  | .str _ :: ds, vs, ns, e, _ => by cases e
  | .lst _ :: ds, vs, ns, e, _ => by cases e
  | .tup _ :: ds, vs, ns, e, _ => by cases e
  | .scr _ :: ds, vs, ns, e, _ => by cases e
  | .ins _ _ _ :: ds, vs, ns, e, _ => by cases e
  | .ptr _ :: ds, vs, ns, e, _ => by cases e
  | .exn _ _ _ _ :: ds, vs, ns, e, _ => by cases e
def strsOf : List D → Option (List (List Nat))
  | [] => some []
  | .str i :: ds => (strsOf ds).map fun r => i :: r
  | _ => none
theorem strs_rds {K : PySem.W.Frag} {H : Hp} : ∀ {ds : List D} {vs : List V} {ns : List (List Nat)}, strsOf ds = some ns → RDs K H ds vs → vs = (ns.map fun s => (⟨s.toArray⟩ : Str)).map V.str
  | [], vs, ns, e, h => by cases e; cases h; rfl
  | .str i :: ds, vs, ns, e, ⟨x, xs, e1, e2, e3⟩ => by
    obtain ⟨r, h1, h2⟩ := Option.map_eq_some_iff.mp e
    subst h2
    cases e2
    rw [e1, strs_rds h1 e3]; rfl
  | .non :: ds, vs, ns, e, _ => by cases e
  | .int _ :: ds, vs, ns, e, _ => by cases e
  | .bl _ :: ds, vs, ns, e, _ => by cases e
  | .lst _ :: ds, vs, ns, e, _ => by cases e
  | .tup _ :: ds, vs, ns, e, _ => by cases e
  | .scr _ :: ds, vs, ns, e, _ => by cases e
  | .ins _ _ _ :: ds, vs, ns, e, _ => by cases e
  | .ptr _ :: ds, vs, ns, e, _ => by cases e
  | .exn _ _ _ _ :: ds, vs, ns, e, _ => by cases e
def anyL : D → Option (List D)
  | .lst xs => some xs
  | .scr xs => some xs
  | _ => none
theorem anyL_of {K : PySem.W.Frag} {G H : Hp} {d : D} {v : V} {xs : List D} (s : Same G H) (h : RO K G H d v) (e : anyL d = some xs) : ∃ p vs, v = .ref p ∧ SqL K H p vs ∧ RDs K G xs vs := by
  cases d with
  | lst ys => cases e; obtain ⟨p, vs, h1, h2, h3⟩ := h.lst s; exact ⟨p, vs, h1, SqL.of h2, h3⟩
  | scr ys => cases e; exact h.scr s
  | _ => cases e
def sumD : List D → Option RV
  | [d] => match anyL d with
    | some xs => (intsOf xs).map fun ns => .d (.int ns.sum)
    | none => none
  | _ => none
theorem fnd_sum {K : PySem.W.Frag} : FnD K (rSum K) sumD := by
  intro G H xs ds z s hx e Q k
  unfold sumD at e
  split at e
  · split at e
    · rename_i d ys el
      obtain ⟨ns, e1, e2⟩ := Option.map_eq_some_iff.mp e
      subst e2
      obtain ⟨v, rfl, r⟩ := ros1 hx
      obtain ⟨p, vs, f1, f2, f3⟩ := anyL_of s r el
      subst f1
      rw [ints_rds e1 f3] at f2
      exact ⟨p, ns, rfl, f2, k _ _ (.same rfl)⟩
    · cases e
  · cases e
def minL (n : Int) (ns : List Int) : Int := ns.foldl (fun m k => if k < m then k else m) n
def maxL (n : Int) (ns : List Int) : Int := ns.foldl (fun m k => if m < k then k else m) n
theorem minL_spec : ∀ (ns : List Int) (n : Int), (minL n ns = n ∨ minL n ns ∈ ns) ∧ minL n ns ≤ n ∧ ∀ y ∈ ns, minL n ns ≤ y
  | [], n => by simp [minL]
  | m :: ns, n => by
    obtain ⟨h1, h2, h3⟩ := minL_spec ns (if m < n then m else n)
    have e : minL n (m :: ns) = minL (if m < n then m else n) ns := rfl
    rw [e]
    refine ⟨?_, ?_, fun y hy => ?_⟩
    · rcases h1 with h1 | h1
      · rw [h1]; split
        · exact .inr List.mem_cons_self
        · exact .inl rfl
      · exact .inr (List.mem_cons_of_mem _ h1)
    · split at h2 <;> rename_i h <;> simp only [h, if_true, if_false] <;> omega
    · rcases List.mem_cons.mp hy with rfl | hy
      · split at h2 <;> rename_i h <;> simp only [h, if_true, if_false] <;> omega
      · exact h3 y hy
theorem maxL_spec : ∀ (ns : List Int) (n : Int), (maxL n ns = n ∨ maxL n ns ∈ ns) ∧ n ≤ maxL n ns ∧ ∀ y ∈ ns, y ≤ maxL n ns
  | [], n => by simp [maxL]
  | m :: ns, n => by
    obtain ⟨h1, h2, h3⟩ := maxL_spec ns (if n < m then m else n)
    have e : maxL n (m :: ns) = maxL (if n < m then m else n) ns := rfl
    rw [e]
    refine ⟨?_, ?_, fun y hy => ?_⟩
    · rcases h1 with h1 | h1
      · rw [h1]; split
        · exact .inr List.mem_cons_self
        · exact .inl rfl
      · exact .inr (List.mem_cons_of_mem _ h1)
    · split at h2 <;> rename_i h <;> simp only [h, if_true, if_false] <;> omega
    · rcases List.mem_cons.mp hy with rfl | hy
      · split at h2 <;> rename_i h <;> simp only [h, if_true, if_false] <;> omega
      · exact h3 y hy
def minD : List D → Option RV
  | [.int i, .int j] => some (.d (.int (if j < i then j else i)))
  | [.lst xs] => match intsOf xs with
    | some (n :: ns) => some (.d (.int (minL n ns)))
    | _ => none
  | _ => none
def maxD : List D → Option RV
  | [.int i, .int j] => some (.d (.int (if j > i then j else i)))
  | [.lst xs] => match intsOf xs with
    | some (n :: ns) => some (.d (.int (maxL n ns)))
    | _ => none
  | _ => none
theorem fnd_min {K : PySem.W.Frag} : FnD K (fun xs H Q => (∃ i j : Int, xs = [V.int i, V.int j] ∧ Q (.int (if j < i then j else i)) H) ∨ rMin K xs H Q) minD := by
  intro G H xs ds z s hx e Q k
  unfold minD at e
  split at e
  · cases e
    obtain ⟨v, w, rfl, r1, r2⟩ := ros2 hx
    exact .inl ⟨_, _, by rw [r1.int, r2.int], k _ _ (.same rfl)⟩
  · split at e
    · rename_i ys n ns el
      cases e
      obtain ⟨v, rfl, r⟩ := ros1 hx
      obtain ⟨p, vs, f1, f2, f3⟩ := r.lst s
      subst f1
      rw [ints_rds el f3] at f2
      refine .inr ⟨p, n :: ns, rfl, SqL.of f2, by simp, fun m hm hall => ?_⟩
      obtain ⟨h1, h2, h3⟩ := minL_spec ns n
      have : m = minL n ns := by
        have a1 : m ≤ minL n ns := by
          rcases h1 with h1 | h1
          · rw [h1]; exact hall n List.mem_cons_self
          · exact hall _ (List.mem_cons_of_mem _ h1)
        have a2 : minL n ns ≤ m := by
          rcases List.mem_cons.mp hm with rfl | hm
          · exact h2
          · exact h3 m hm
        omega
      rw [this]
      exact k _ _ (.same rfl)
    · cases e
  · cases e
theorem fnd_max {K : PySem.W.Frag} : FnD K (fun xs H Q => (∃ i j : Int, xs = [V.int i, V.int j] ∧ Q (.int (if j > i then j else i)) H) ∨ rMax K xs H Q) maxD := by
  intro G H xs ds z s hx e Q k
  unfold maxD at e
  split at e
  · cases e
    obtain ⟨v, w, rfl, r1, r2⟩ := ros2 hx
    exact .inl ⟨_, _, by rw [r1.int, r2.int], k _ _ (.same rfl)⟩
  · split at e
    · rename_i ys n ns el
      cases e
      obtain ⟨v, rfl, r⟩ := ros1 hx
      obtain ⟨p, vs, f1, f2, f3⟩ := r.lst s
      subst f1
      rw [ints_rds el f3] at f2
      refine .inr ⟨p, n :: ns, rfl, SqL.of f2, by simp, fun m hm hall => ?_⟩
      obtain ⟨h1, h2, h3⟩ := maxL_spec ns n
      have : m = maxL n ns := by
        have a1 : maxL n ns ≤ m := by
          rcases h1 with h1 | h1
          · rw [h1]; exact hall n List.mem_cons_self
          · exact hall _ (List.mem_cons_of_mem _ h1)
        have a2 : m ≤ maxL n ns := by
          rcases List.mem_cons.mp hm with rfl | hm
          · exact h2
          · exact h3 m hm
        omega
      rw [this]
      exact k _ _ (.same rfl)
    · cases e
  · cases e
def allD : List D → Option RV
  | [.lst xs] => (boolsOf xs).map fun bs => .d (.bl (bs.all id))
  | _ => none
theorem fnd_all {K : PySem.W.Frag} : FnD K (rAll K) allD := by
  intro G H xs ds z s hx e Q k
  unfold allD at e
  split at e
  · obtain ⟨ns, e1, e2⟩ := Option.map_eq_some_iff.mp e
    subst e2
    obtain ⟨v, rfl, r⟩ := ros1 hx
    obtain ⟨p, vs, f1, f2, f3⟩ := r.lst s
    subst f1
    rw [bools_rds e1 f3] at f2
    exact ⟨p, ns, rfl, SqL.of f2, k _ _ (.same rfl)⟩
  · cases e
def anyD : List D → Option RV
  | [.lst xs] => (boolsOf xs).map fun bs => .d (.bl (bs.any id))
  | _ => none
theorem fnd_any {K : PySem.W.Frag} : FnD K (rAny K) anyD := by
  intro G H xs ds z s hx e Q k
  unfold anyD at e
  split at e
  · obtain ⟨ns, e1, e2⟩ := Option.map_eq_some_iff.mp e
    subst e2
    obtain ⟨v, rfl, r⟩ := ros1 hx
    obtain ⟨p, vs, f1, f2, f3⟩ := r.lst s
    subst f1
    rw [bools_rds e1 f3] at f2
    exact ⟨p, ns, rfl, SqL.of f2, k _ _ (.same rfl)⟩
  · cases e
def tupleD : List D → Option RV
  | [.lst xs] => some (.d (.tup xs))
  | [.tup xs] => some (.d (.tup xs))
  | _ => none
theorem fnd_tuple {K : PySem.W.Frag} : FnD K (fun xs H Q => ∃ (p : Addr) (ys : List V), xs = [V.ref p] ∧ ((SqL K H p ys ∧ ∀ l, H l = none → Q (.ref l) (upd H l (.tup ys))) ∨ (SqT K H p ys ∧ Q (.ref p) H))) tupleD := by
  intro G H xs ds z s hx e Q k
  unfold tupleD at e
  split at e
  · cases e
    obtain ⟨v, rfl, r⟩ := ros1 hx
    obtain ⟨p, vs, f1, f2, f3⟩ := r.lst s
    subst f1
    exact ⟨p, vs, rfl, .inl ⟨SqL.of f2, fun l hl => k _ _ (.tup hl f3)⟩⟩
  · cases e
    obtain ⟨v, rfl, r⟩ := ros1 hx
    obtain ⟨p, vs, f1, f2, f3⟩ := r.tup s
    subst f1
    exact ⟨p, vs, rfl, .inr ⟨f2, k _ _ (.same r.rdT)⟩⟩
  · cases e
def listD : List D → Option RV
  | [.lst xs] => some (.own xs)
  | [.scr xs] => some (.own xs)
  | [.tup xs] => some (.own xs)
  | _ => none
theorem fnd_list {K : PySem.W.Frag} : FnD K (fun xs H Q => ∃ (p : Addr) (ys : List V), xs = [V.ref p] ∧ (SqL K H p ys ∨ SqT K H p ys) ∧ ∀ l, H l = none → Q (.ref l) (upd H l (.lst ys))) listD := by
  intro G H xs ds z s hx e Q k
  unfold listD at e
  split at e
  · cases e
    obtain ⟨v, rfl, r⟩ := ros1 hx
    obtain ⟨p, vs, f1, f2, f3⟩ := r.lst s
    subst f1
    exact ⟨p, vs, rfl, .inl (SqL.of f2), fun l hl => k _ _ (.lst hl f3)⟩
  · cases e
    obtain ⟨v, rfl, r⟩ := ros1 hx
    obtain ⟨p, vs, f1, f2, f3⟩ := r.scr s
    subst f1
    exact ⟨p, vs, rfl, .inl f2, fun l hl => k _ _ (.lst hl f3)⟩
  · cases e
    obtain ⟨v, rfl, r⟩ := ros1 hx
    obtain ⟨p, vs, f1, f2, f3⟩ := r.tup s
    subst f1
    exact ⟨p, vs, rfl, .inr f2, fun l hl => k _ _ (.lst hl f3)⟩
  · cases e
def bListRange (f : Ex) : Ex := fun ρ => match f ρ with
  | some (.d (.int j), ρ1) => if -(2 ^ 62) ≤ j ∧ j ≤ 16777216 then some (.own ((List.range j.toNat).map fun k : Nat => D.int (k : Int)), ρ1) else none
  | _ => none
theorem rds_range {K : PySem.W.Frag} {H : Hp} {lo : Int} : ∀ ns : List Nat, RDs K H (ns.map fun k : Nat => D.int (lo + (k : Int))) (ns.map fun k : Nat => V.int (lo + (k : Int)))
  | [] => rfl
  | n :: ns => ⟨_, _, rfl, rfl, rds_range ns⟩
section
variable {X : Cx} {a b c e o : Expr} {es : List Expr} {fa fb fc : Ex} {fs : Ax} {pos p p2 pos2 : Pos} {x : Str} {id : String}
theorem ev_listRange (hc : X.calm = true) (hg : Gl X "list") (hm : X.mg "list" = none) (hg2 : Gl X "range") (hm2 : X.mg "range" = none) (h : PEv X a fa) (na : starEach [a] X.env = (false, eval a X.env) :: starEach [] X.env := by rfl)
    (nb : starEach [.Call (.Name "range" p2) [a] [] pos2] X.env = (false, eval (.Call (.Name "range" p2) [a] [] pos2) X.env) :: starEach [] X.env := by rfl) : PEv X (.Call (.Name "list" p) [.Call (.Name "range" p2) [a] [] pos2] [] pos) (bListRange fa) :=
  PE.imp (pe_listRg hc hg hm (prg_1 hg2 hm2 h na) nb) fun σ H Q q => by
    obtain ⟨F, G, ρ, r, ρ', R, q, k⟩ := q
    unfold bListRange at q
    split at q
    rotate_left
    · cases q
    rename_i j ρ1 e1
    split at q
    rotate_left
    · cases q
    rename_i hj
    cases q
    refine ⟨F, G, ρ, _, _, R, e1, fun v G1 H1 s1 R1 q1 => ⟨j, q1, ⟨by omega, by omega, by omega, by omega, by omega⟩, fun l hl => ?_⟩⟩
    have hr : RDs X.K G1 ((List.range j.toNat).map fun k : Nat => D.int (k : Int)) (rgV 0 j) := by
      have := rds_range (K := X.K) (H := G1) (lo := 0) (List.range j.toNat)
      unfold rgV
      simpa using this
    obtain ⟨G2, t2, R2, q2⟩ := rz_done R1 (RZ.lst (G := G1) hl hr)
    exact k _ G2 _ (s1.trans t2) R2 q2
def tyD : D → Option String
  | .non => some "NoneType"
  | .bl _ => some "bool"
  | .int _ => some "int"
  | .str _ => some "str"
  | .lst _ => some "list"
  | .tup _ => some "tuple"
  | .dct _ _ => some "dict"
  | _ => none
def isiD (T : String) : List D → Option RV
  | [x, .ptr (.ty U)] => if U = T then match tyD x with
      | some A => (kitB A T).map fun r => .d (.bl r)
      | none => none
    else none
  | _ => none
theorem ty_of {K : PySem.W.Frag} {G H : Hp} {d : D} {v : V} {A : String} (s : Same G H) (r1 : RO K G H d v) (hA : tyD d = some A) : TyX K H v (.type A) := by
  cases d with
  | non => cases hA; rw [r1.non]; exact .base .non
  | bl b => cases hA; rw [r1.bl]; exact .base (.bl b)
  | int i => cases hA; rw [r1.int]; exact .base (.int i)
  | str t => cases hA; rw [r1.str]; exact .base (.str _)
  | lst ys =>
    cases hA
    obtain ⟨p, vs, f1, f2, f3⟩ := r1.lst s
    subst f1
    exact .base (.lst f2)
  | tup ys =>
    cases hA
    obtain ⟨p, vs, f1, f2, f3⟩ := r1.tup s
    subst f1
    rcases f2 with (f2 | ⟨o, f2⟩) | ⟨o, its, n, k1, k2, _⟩
    · exact .base (.tup f2)
    · exact .fTuple f2
    · exact .kTuple k1 k2
  | dct ks xs =>
    cases hA
    obtain ⟨p, kvs, f1, f2, f3⟩ := r1.dct s
    subst f1
    exact .base (.dK f2)
  | _ => cases hA
theorem fnd_isi {K : PySem.W.Frag} {T : String} : FnD K (rIsi K) (isiD T) := by
  intro G H xs ds z s hx e Q k
  unfold isiD at e
  split at e
  · split at e
    rotate_left
    · cases e
    rename_i d U hU
    subst hU
    split at e
    rotate_left
    · cases e
    rename_i A hA
    obtain ⟨r, e1, e2⟩ := Option.map_eq_some_iff.mp e
    subst e2
    obtain ⟨v, w, rfl, r1, r2⟩ := ros2 hx
    have r2' : w = .ty U := by
      rcases r2 with h | ⟨ds', p, vs, h0, h1, h2, h3⟩
      · exact h
      · cases h0
    subst r2'
    exact ⟨v, _, .type A, .type U, r, rfl, .ty U, ty_of s r1 hA, kit_ty e1, k _ _ (.same rfl)⟩
  · cases e
theorem ev_cls {T : String} (hg : Gl X x) (hm : X.mg x = none) (hv : bootBuiltins x = some (.type T)) (hn : x ≠ "__name__" := by decide) (hd : (x == ("__debug__" : Str)) = false := by decide) : PEv X (.Name x pos) (bC (.ptr (.ty T))) :=
  ev_const (v := .ty T) (pe_bltn hg hm hv (show RelV (.ty T) (.type T) from rfl) hn hd) fun G => rfl
def bMt (g : List Nat → List D → Option RV) (fo : Ex) (fs : Ax) : Ex := fun ρ => match fo ρ with
  | some (.d (.str s), ρ1) => match fs ρ1 with
    | none => none
    | some (rs, ρ2) => match pks ρ2 rs with
      | none => none
      | some ds => (g s ds).map fun z => (z, ρ2)
  | _ => none
def MtD (K : PySem.W.Frag) (r : V → List V → Hp → VK → Prop) (g : List Nat → List D → Option RV) : Prop := ∀ (G H : Hp) (s : List Nat) (xs : List V) (ds : List D) (z : RV), Same G H → ROs K G H ds xs → g s ds = some z → ∀ Q : VK, (∀ v H', RZ K G H z v H' → Q v H') → r (.str ⟨s.toArray⟩) xs H Q
theorem read_mt {K : PySem.W.Frag} {fo : Ex} {g : List Nat → List D → Option RV} {r : V → List V → Hp → VK → Prop} (hg : MtD K r g) {σ : Sg} {H : Hp} {Q : VK} (h : tE K (bMt g fo fs) σ H Q) : tBM K "str" r (tE K fo) (tAr K fs) σ H Q := by
  obtain ⟨F, G, ρ, z, ρ', R, e, k⟩ := h
  unfold bMt at e
  split at e
  rotate_left
  · cases e
  rename_i s ρ1 e1
  split at e
  · cases e
  rename_i rs ρ2 e2
  split at e
  · cases e
  rename_i ds e3
  obtain ⟨z', ez, eq⟩ := Option.map_eq_some_iff.mp e
  cases eq
  refine ⟨F, G, ρ, _, ρ1, R, e1, fun v G1 H1 s1 R1 q1 => ?_⟩
  cases (show v = .str ⟨s.toArray⟩ from q1)
  refine ⟨rfl, F, G1, ρ1, rs, _, R1, e2, fun vs G2 H2 s2 R2 q2 => ?_⟩
  refine hg G2 H2 s vs ds _ R2.gh (pks_ros R2 q2 e3) ez Q fun w H3 hz => ?_
  obtain ⟨G3, t3, R3, q3⟩ := rz_done R2 hz
  exact k w G3 H3 ((s1.trans s2).trans t3) R3 q3
def joinD (s : List Nat) : List D → Option RV
  | [.lst xs] => match strsOf xs with
    | some ys => if (ys.map (·.length)).sum + ys.length * s.length ≤ 16777216 then some (.d (.str (joinL s ys))) else none
    | none => none
  | [.tup xs] => match strsOf xs with
    | some ys => if (ys.map (·.length)).sum + ys.length * s.length ≤ 16777216 then some (.d (.str (joinL s ys))) else none
    | none => none
  | _ => none
theorem str_of_tl {x : Str} {l : List Nat} (h : tl x = l) : x = ⟨l.toArray⟩ := by
  subst h
  cases x
  simp [tl]
theorem map_tl : ∀ ys : List (List Nat), (ys.map fun s => (⟨s.toArray⟩ : Str)).map tl = ys
  | [] => rfl
  | y :: ys => by
    show tl ⟨y.toArray⟩ :: _ = _
    rw [map_tl ys]
theorem join_val (s : List Nat) (ys : List (List Nat)) : Txt.join ⟨s.toArray⟩ (ys.map fun s => (⟨s.toArray⟩ : Str)) = ⟨(joinL s ys).toArray⟩ := by
  refine str_of_tl ?_
  rw [join_eq, tl_join, map_tl]
theorem mtd_join {K : PySem.W.Frag} : MtD K (fun x xs H Q => ∃ a p, ∃ ys : List Str, x = V.str a ∧ xs = [.ref p] ∧ (SqL K H p (ys.map V.str) ∨ SqT K H p (ys.map V.str)) ∧
    (ys.map (·.length)).sum + ys.length * a.length ≤ 16777216 ∧ Q (.str (Txt.join a ys)) H) joinD := by
  intro G H s xs ds z sm hx e Q k
  have key : ∀ ys : List (List Nat), (ys.map (·.length)).sum + ys.length * s.length ≤ 16777216 → ((ys.map fun s => (⟨s.toArray⟩ : Str)).map (·.length)).sum + (ys.map fun s => (⟨s.toArray⟩ : Str)).length * (⟨s.toArray⟩ : Str).length ≤ 16777216 := fun ys h => by
    rw [List.map_map, List.length_map]
    have e : ((fun x : Str => x.length) ∘ fun s : List Nat => (⟨s.toArray⟩ : Str)) = fun s : List Nat => s.length := by
      funext s; simp [Str.length]
    rw [e]
    simpa [Str.length] using h
  unfold joinD at e
  split at e
  · split at e
    rotate_left
    · cases e
    rename_i ys el
    split at e
    rotate_left
    · cases e
    rename_i hl
    cases e
    obtain ⟨v, rfl, r⟩ := ros1 hx
    obtain ⟨p, vs, f1, f2, f3⟩ := r.lst sm
    subst f1
    rw [strs_rds el f3] at f2
    exact ⟨_, p, _, rfl, rfl, .inl (SqL.of f2), key ys hl, by rw [join_val]; exact k _ _ (.same rfl)⟩
  · split at e
    rotate_left
    · cases e
    rename_i ys el
    split at e
    rotate_left
    · cases e
    rename_i hl
    cases e
    obtain ⟨v, rfl, r⟩ := ros1 hx
    obtain ⟨p, vs, f1, f2, f3⟩ := r.tup sm
    subst f1
    rw [strs_rds el f3] at f2
    exact ⟨_, p, _, rfl, rfl, .inr f2, key ys hl, by rw [join_val]; exact k _ _ (.same rfl)⟩
  · cases e
def occ (s t : List Nat) : List Nat := Builtin.Str.occurrences ⟨s.toArray⟩ ⟨t.toArray⟩ 0 s.length 1
def sindexD (s : List Nat) : List D → Option RV
  | [.str t] => match occ s t with
    | i :: _ => some (.d (.int i))
    | [] => none
  | _ => none
theorem mtd_sindex {K : PySem.W.Frag} : MtD K (fun x xs H Q => ∃ a b i rest, x = V.str a ∧ xs = [V.str b] ∧ Builtin.Str.occurrences a b 0 a.length 1 = i :: rest ∧ Q (.int (i : Nat)) H) sindexD := by
  intro G H s xs ds z sm hx e Q k
  unfold sindexD at e
  split at e
  · split at e
    · rename_i t i r el
      cases e
      obtain ⟨v, rfl, q⟩ := ros1 hx
      refine ⟨_, _, i, r, rfl, by rw [q.str], ?_, k _ _ (.same rfl)⟩
      unfold occ at el
      simpa [Str.length] using el
    · cases e
  · cases e
def appendD (xs ds : List D) : Option (List D × D) := match ds with
  | [d] => if xs.length < 16777216 then some (xs ++ [d], .non) else none
  | _ => none
theorem mud_append {K : PySem.W.Frag} : MuD K rAppend appendD := by
  intro G H p vs us xs ds ys z s hp gp hx hd e Q k
  unfold appendD at e
  split at e
  · split at e
    · rename_i d hl
      cases e
      obtain ⟨v, ws, rfl, e2, e3⟩ := hd
      cases e3
      exact ⟨p, vs, v, rfl, rfl, hp, by rw [sizeLine_num, hx.length]; exact hl, k _ _ (hx.append (RDs.one e2)) rfl⟩
    · cases e
  · cases e
def extendD (xs ds : List D) : Option (List D × D) := match ds with
  | [.lst zs] => if xs.length + zs.length ≤ 16777216 then some (xs ++ zs, .non) else none
  | _ => none
theorem mud_extend {K : PySem.W.Frag} : MuD K rExtend extendD := by
  intro G H p vs us xs ds ys z s hp gp hx hd e Q k
  unfold extendD at e
  split at e
  · split at e
    · rename_i zs hl
      cases e
      obtain ⟨v, ws, rfl, ⟨q, ws', rfl, f2, f3⟩, e3⟩ := hd
      cases e3
      exact ⟨p, q, vs, ws', rfl, rfl, hp, s _ _ f2, by rw [sizeLine_num, hx.length, f3.length]; exact hl, k _ _ (hx.append f3) rfl⟩
    · cases e
  · cases e
def popAtD (xs ds : List D) : Option (List D × D) := match ds with
  | [.int i] => if -(2 ^ 63) ≤ i ∧ i < 2 ^ 63 then match seqIndex? i xs.length with
      | some j => match xs[j]? with
        | some d => some (xs.eraseIdx j, d)
        | none => none
      | none => none
    else none
  | _ => none
theorem mud_popAt {K : PySem.W.Frag} : MuD K rPopAt popAtD := by
  intro G H p vs us xs ds ys z s hp gp hx hd e Q k
  unfold popAtD at e
  split at e
  · split at e
    rotate_left
    · cases e
    rename_i i hi
    split at e
    rotate_left
    · cases e
    rename_i j hj
    split at e
    rotate_left
    · cases e
    rename_i d he
    cases e
    obtain ⟨v, ws, rfl, e2, e3⟩ := hd
    cases e3
    cases (show v = .int i from e2)
    obtain ⟨w, w1, w2⟩ := hx.get he
    exact ⟨p, vs, i, j, w, rfl, rfl, hp, hi.1, hi.2, by rw [hx.length]; exact hj, w1, k _ _ (hx.eraseIdx j) w2⟩
  · cases e
def popD (xs ds : List D) : Option (List D × D) := match ds with
  | [] => match xs[xs.length - 1]? with
    | some d => some (xs.dropLast, d)
    | none => none
  | _ => none
theorem RDs.dropLast {K : PySem.W.Frag} {G : Hp} {ds : List D} {vs : List V} (h : RDs K G ds vs) : RDs K G ds.dropLast vs.dropLast := by
  rw [List.dropLast_eq_take, List.dropLast_eq_take, h.length]
  exact h.take _
theorem mud_pop {K : PySem.W.Frag} : MuD K rPop popD := by
  intro G H p vs us xs ds ys z s hp gp hx hd e Q k
  unfold popD at e
  split at e
  · split at e
    rotate_left
    · cases e
    rename_i d he
    cases e
    cases hd
    obtain ⟨w, w1, w2⟩ := hx.get he
    exact ⟨p, vs, w, rfl, rfl, hp, by rw [hx.length]; exact w1, k _ _ hx.dropLast w2⟩
  · cases e
end
end M
namespace M
open PySem PySem.Spec PyProof.Rows L2 TL
def RWs (K : PySem.W.Frag) (F : Fm) (G H : Hp) (σ : Sg) (ρ : Sl) : List RV → List V → Prop
  | [], vs => vs = []
  | r :: rs, vs => ∃ x xs, vs = x :: xs ∧ RR K F G H σ ρ r x ∧ (∀ j, r ≠ .bor j) ∧ (∀ (ys : List D) (k : Nat) (zs : List D) (y : V), r = .own ys → rs[k]? = some (RV.own zs) → xs[k]? = some y → x ≠ y) ∧ RWs K F G H σ ρ rs xs
def aoCons (f : Ex) (g : Ax) : Ax := fun ρ => match f ρ with
  | none => none
  | some (.bor _, _) => none
  | some (r, ρ1) => match g ρ1 with
    | none => none
    | some (rs, ρ2) => some (r :: rs, ρ2)
def tAo (K : PySem.W.Frag) (f : Ax) : TA := fun σ H Q => ∃ F G ρ rs ρ', Rep K F G H σ ρ ∧ f ρ = some (rs, ρ') ∧ ∀ vs G' H', Same G G' → Rep K F G' H' σ ρ' → RWs K F G' H' σ ρ' rs vs → Q vs H'
def PAo (X : Cx) (es : List Expr) (f : Ax) : Prop := PA X es (tAo X.K f)
theorem RWs.lent {K : PySem.W.Frag} {F : Fm} {G H : Hp} {σ : Sg} {ρ : Sl} {p : Addr} {o : HO} (fp : F.hp p = none) : ∀ {rs : List RV} {vs : List V}, RWs K ⟨upd F.hp p o, F.par⟩ G H σ ρ rs vs → RWs K F G H σ ρ rs vs ∧ ∀ (k : Nat) (zs : List D) (y : V), rs[k]? = some (RV.own zs) → vs[k]? = some y → V.ref p ≠ y
  | [], vs, h => ⟨h, fun k zs y e => by simp at e⟩
  | r :: rs, vs, ⟨x, xs, e1, e2, e3, e4, e5⟩ => by
    obtain ⟨h1, h2⟩ := RWs.lent fp e5
    obtain ⟨h3, h4⟩ := e2.lent fp
    refine ⟨⟨x, xs, e1, h3, e3, e4, h1⟩, fun k zs y q1 q2 => ?_⟩
    subst e1
    cases k with
    | zero =>
      simp at q1 q2
      subst q2
      exact (h4 zs q1).symm
    | succ k => exact h2 k zs y (by simpa using q1) (by simpa using q2)
section
variable {X : Cx} {a b c e : Expr} {es : List Expr} {fa fb fc : Ex} {pos p : Pos} {x : Str}
theorem ao_nil : PAo X [] aNil := PA.imp pa_nil fun σ H Q h => by
  obtain ⟨F, G, ρ, rs, ρ', R, e, k⟩ := h
  cases e
  exact k [] G H (Same.refl G) R rfl
theorem ao_cons {f : Ax} (he : PEv X e fa) (hs : PAo X es f) (hst : starEach (e :: es) X.env = (false, eval e X.env) :: starEach es X.env := by rfl) : PAo X (e :: es) (aoCons fa f) := PA.imp (pa_cons he hs hst) fun σ H Q h => by
  obtain ⟨F, G, ρ, rs, ρ', R, q, k⟩ := h
  unfold aoCons at q
  split at q
  · cases q
  · cases q
  rename_i r ρ1 hnb e1
  split at q
  · cases q
  rename_i rb ρ2 e2
  cases q
  refine ⟨F, G, ρ, r, ρ1, R, e1, fun v G1 H1 s1 R1 q1 => ?_⟩
  cases r with
  | bor i => exact (hnb i rfl).elim
  | d d =>
    refine ⟨F, G1, ρ1, rb, _, R1, e2, fun ys G2 H2 s2 R2 q2 => k _ G2 H2 (s1.trans s2) R2 ⟨v, ys, rfl, RD.mono s2 _ _ q1, fun j z => (nomatch z), fun _ _ _ _ z => (nomatch z), q2⟩⟩
  | own xs =>
    obtain ⟨p, vs, rfl, hp, gp, fp, hr, hs⟩ := q1
    refine ⟨⟨upd F.hp p (.lst vs), F.par⟩, G1, ρ1, rb, _, R1.lend hp gp hs, e2, fun ys G2 H2 s2 R2 q2 => ?_⟩
    obtain ⟨R2', hp2, gp2, ns2⟩ := R2.back fp
    obtain ⟨q2', ne⟩ := q2.lent fp
    exact k _ G2 H2 (s1.trans s2) R2' ⟨.ref p, ys, rfl, ⟨p, vs, rfl, hp2, gp2, fp, RDs.mono s2 _ _ hr, ns2⟩, fun j z => (nomatch z), fun _ k zs y _ z1 z2 => ne k zs y z1 z2, q2'⟩
end
def putRs : List Nat → List RV → Sl → Option Sl
  | [], [], ρ => some ρ
  | i :: is, r :: rs, ρ => match putR i r ρ with
    | none => none
    | some ρ1 => putRs is rs ρ1
  | _, _, _ => none
def sigs : List Nat → List V → Sg → Sg
  | i :: is, v :: vs, σ => sigs is vs (σ.set i (some v))
  | _, _, σ => σ
theorem RWs.put {K : PySem.W.Frag} {F : Fm} {G H : Hp} {σ : Sg} {ρ ρ' : Sl} {i : Nat} {r : RV} {v : V} (e : putR i r ρ = some ρ') : ∀ {rs : List RV} {vs : List V}, (∀ (ys : List D) (k : Nat) (zs : List D) (y : V), r = .own ys → rs[k]? = some (RV.own zs) → vs[k]? = some y → v ≠ y) → RWs K F G H σ ρ rs vs → RWs K F G H (σ.set i (some v)) ρ' rs vs
  | [], vs, _, h => h
  | q :: rs, vs, hd, ⟨x, xs, e1, e2, e3, e4, e5⟩ => by
    subst e1
    refine ⟨x, xs, rfl, RR.put e e2 e3 (fun ys zs z1 z2 => hd ys 0 zs x z1 (by rw [z2]; rfl) rfl), e3, e4, RWs.put e (fun ys k zs y z1 z2 z3 => hd ys (k + 1) zs y z1 (by simpa using z2) (by simpa using z3)) e5⟩
theorem Rep.puts {K : PySem.W.Frag} {F : Fm} {G H : Hp} : ∀ {is : List Nat} {rs : List RV} {vs : List V} {σ : Sg} {ρ ρ' : Sl}, Rep K F G H σ ρ → RWs K F G H σ ρ rs vs → putRs is rs ρ = some ρ' → Rep K F G H (sigs is vs σ) ρ'
  | [], [], vs, σ, ρ, ρ', R, h, e => by
    cases e
    cases h
    exact R
  | [], r :: rs, vs, σ, ρ, ρ', R, h, e => by cases e
  | i :: is, [], vs, σ, ρ, ρ', R, h, e => by cases e
  | i :: is, r :: rs, vs, σ, ρ, ρ', R, ⟨x, xs, e1, e2, e3, e4, e5⟩, e => by
    unfold putRs at e
    split at e
    · cases e
    rename_i ρ1 p1
    subst e1
    show Rep K F G H (sigs is xs (σ.set i (some x))) ρ'
    exact Rep.puts (R.put e2 p1) (RWs.put p1 e4 e5) e
def sParN (is : List Nat) (fs : Ax) : Sx := fun ρ => match fs ρ with
  | none => none
  | some (rs, ρ1) => (putRs is rs ρ1).map fun ρ2 => (.nx, ρ2)
theorem RWs.len {K : PySem.W.Frag} {F : Fm} {G H : Hp} {σ : Sg} {ρ : Sl} : ∀ {rs : List RV} {vs : List V}, RWs K F G H σ ρ rs vs → vs.length = rs.length
  | [], vs, h => by cases h; rfl
  | r :: rs, vs, ⟨x, xs, e1, e2, e3, e4, e5⟩ => by subst e1; simp [RWs.len e5]
theorem putRs_len : ∀ {is : List Nat} {rs : List RV} {ρ ρ' : Sl}, putRs is rs ρ = some ρ' → is.length = rs.length
  | [], [], _, _, _ => rfl
  | [], _ :: _, _, _, e => by cases e
  | _ :: _, [], _, _, e => by cases e
  | i :: is, r :: rs, ρ, ρ', e => by
    unfold putRs at e
    split at e
    · cases e
    · simp [putRs_len e]
section
variable {X : Cx} {a b c e : Expr} {es : List Expr} {fa fb fc : Ex} {fs : Ax} {pos p pos' : Pos} {x y z : Str}
theorem read_parN {K : PySem.W.Frag} {is : List Nat} {fs : Ax} {D : Ends} {σ : Sg} {H : Hp} (h : tS K (sParN is fs) D σ H) : tAo K fs σ H fun vs H1 => vs.length = is.length ∧ D.nx (sigs is vs σ) H1 := by
  obtain ⟨F, G, ρ, fl, ρ', R, q, k⟩ := h
  unfold sParN at q
  split at q
  · cases q
  rename_i rs ρ1 e1
  obtain ⟨ρ2, e2, eq⟩ := Option.map_eq_some_iff.mp q
  cases eq
  exact ⟨F, G, ρ, rs, ρ1, R, e1, fun vs G1 H1 s1 R1 q1 => ⟨by rw [q1.len, putRs_len e2], k _ G1 H1 s1 (R1.puts q1 e2)⟩⟩
theorem sv_par2 {i j : Nat} {px py pt : Pos} {kt k2 pt2} (hc : X.calm = true) (hN : X.N.Nodup) (hi : X.N[i]? = some x) (hj : X.N[j]? = some y) (hij : i ≠ j)
    (hx : X.env.scope.names.lookup x = some .local) (hy : X.env.scope.names.lookup y = some .local) (ha : PAo X [a, b] fs)
    (hw : swappedStores [.Tuple [.Name x px, .Name y py] kt pt] (.Tuple [a, b] k2 pt2) X.env = pure (some [x, y]))
    (hs : swapsWithSole [.Tuple [.Name x px, .Name y py] kt pt] (.Tuple [a, b] k2 pt2) pos.line X.env = pure false := by rfl) :
    PSv X (.Assign [.Tuple [.Name x px, .Name y py] kt pt] (.Tuple [a, b] k2 pt2) pos) (sParN [i, j] fs) := PS.imp (ps_par hc hN hi hj hij hx hy ha hw hs) fun D σ H h => by
  have := read_parN h
  obtain ⟨F, G, ρ, rs, ρ', R, e, k⟩ := this
  refine ⟨F, G, ρ, rs, ρ', R, e, fun vs G1 H1 s1 R1 q1 => ?_⟩
  obtain ⟨hl, q⟩ := k vs G1 H1 s1 R1 q1
  match vs, hl with
  | [v, w], _ => exact ⟨v, w, rfl, q⟩
theorem sv_par3 {i j l : Nat} {px py pz pt : Pos} {kt k2 pt2} (hc : X.calm = true) (hN : X.N.Nodup) (hi : X.N[i]? = some x) (hj : X.N[j]? = some y) (hl : X.N[l]? = some z) (hij : i ≠ j) (hil : i ≠ l) (hjl : j ≠ l)
    (hx : X.env.scope.names.lookup x = some .local) (hy : X.env.scope.names.lookup y = some .local) (hz : X.env.scope.names.lookup z = some .local) (ha : PAo X [a, b, c] fs)
    (hw : swappedStores [.Tuple [.Name x px, .Name y py, .Name z pz] kt pt] (.Tuple [a, b, c] k2 pt2) X.env = pure (some [x, y, z]))
    (hs : swapsWithSole [.Tuple [.Name x px, .Name y py, .Name z pz] kt pt] (.Tuple [a, b, c] k2 pt2) pos.line X.env = pure false := by rfl) :
    PSv X (.Assign [.Tuple [.Name x px, .Name y py, .Name z pz] kt pt] (.Tuple [a, b, c] k2 pt2) pos) (sParN [i, j, l] fs) := PS.imp (ps_par3 hc hN hi hj hl hij hil hjl hx hy hz ha hw hs) fun D σ H h => by
  have := read_parN h
  obtain ⟨F, G, ρ, rs, ρ', R, e, k⟩ := this
  refine ⟨F, G, ρ, rs, ρ', R, e, fun vs G1 H1 s1 R1 q1 => ?_⟩
  obtain ⟨hl, q⟩ := k vs G1 H1 s1 R1 q1
  match vs, hl with
  | [u, v, w], _ => exact ⟨u, v, w, rfl, q⟩
def sBind (bind : Bx) (f : Ex) : Sx := fun ρ => match bFz f ρ with
  | some (.d v, ρ1) => (bind v ρ1).map fun ρ2 => (.nx, ρ2)
  | _ => none
theorem sv_bind {tg : Expr} {bind : Bx} {is : List Nat} (he : PEv X e fa) (hg : PGv X tg bind is) (hs : swapsWithSole [tg] e pos.line X.env = pure false := by rfl) (hw : swappedStores [tg] e X.env = pure none := by rfl) (h1 : (assignEach [tg] X.env).map (·.2) = [assign tg X.env] := by rfl) :
    PSv X (.Assign [tg] e pos) (sBind bind fa) := PS.imp (ps_asg (ev_fz he) hg hs hw h1) fun D σ H h => by
  obtain ⟨F, G, ρ, fl, ρ', R, q, k⟩ := h
  unfold sBind at q
  split at q
  rotate_left
  · cases q
  rename_i v ρ1 e1
  obtain ⟨ρ2, e2, eq⟩ := Option.map_eq_some_iff.mp q
  cases eq
  exact ⟨F, G, ρ, _, ρ1, R, e1, fun w G1 H1 s1 R1 q1 => ⟨F, G1, ρ1, v, _, R1, q1, e2, fun σ' R' _ => k σ' G1 H1 s1 R'⟩⟩
theorem ev_n (i : Nat) (hN : X.N[i]? = some x := by rfl) (hv : Vis X.env.scope x := by first | exact Or.inl rfl | exact Or.inr (Or.inl rfl) | exact Or.inr (Or.inr rfl)) (hd : (x == ("__debug__" : Str)) = false := by decide)
    (hcd : (x == ("__classdict__" : Str)) = false := by decide) : PEv X (.Name x pos) (bV i) := ev_var (pe_var hN hv hd hcd)
theorem ev_int {i j} : PEv X (.Constant (.int i) j pos) (bC (.int i)) := ev_const pe_int fun _ => rfl
theorem ev_bl {i j} : PEv X (.Constant (.bool i) j pos) (bC (.bl i)) := ev_const pe_bl fun _ => rfl
theorem ev_non {j} : PEv X (.Constant .none j pos) (bC .non) := ev_const pe_non fun _ => rfl
theorem ev_str {s : Str} {j} {l : List Nat} (h : s = ⟨l.toArray⟩) : PEv X (.Constant (.str s) j pos) (bC (.str l)) := ev_const pe_str fun _ => by rw [h]; rfl
theorem ev_glob {d : D} {v : V} {u : Value} (hg : Gl X x) (hm : X.mg x = some u) (r : RelV v u) (hd : ∀ G, RD X.K G d v) (hdb : (x == ("__debug__" : Str)) = false := by decide) : PEv X (.Name x pos) (bC d) := ev_const (pe_glob hg hm r hdb) hd
def GInt (mg : Str → Option Value) (x : Str) (i : Int) : Prop := ∃ t, mg x = some (.int i t)
def GStr (mg : Str → Option Value) (x : Str) (l : List Nat) : Prop := ∃ t, mg x = some (.str ⟨l.toArray⟩ t)
theorem ev_gint {i : Int} (h : GInt X.mg x i) (hg : Gl X x) (hdb : (x == ("__debug__" : Str)) = false := by decide) : PEv X (.Name x pos) (bC (.int i)) := by
  obtain ⟨t, h⟩ := h
  exact ev_glob (v := V.int i) hg h ⟨t, rfl⟩ (fun _ => rfl) hdb
theorem ev_gstr {l : List Nat} (h : GStr X.mg x l) (hg : Gl X x) (hdb : (x == ("__debug__" : Str)) = false := by decide) : PEv X (.Name x pos) (bC (.str l)) := by
  obtain ⟨t, h⟩ := h
  exact ev_glob (v := V.str ⟨l.toArray⟩) hg h ⟨t, rfl⟩ (fun _ => rfl) hdb
theorem gv_n (i : Nat) (hN : X.N.Nodup) (hi : X.N[i]? = some x := by rfl) (hx : Loc X.env.scope x := by first | exact Or.inl rfl | exact Or.inr rfl) (hf : X.fn x = true ∨ X.env.scope.names.lookup x = some .local := by first | exact .inl rfl | exact .inr rfl) : PGv X (.Name x pos) (bName i) [i] :=
  gv_of (pg_name hN hi hx hf) gd_name
inductive NmTs (X : Cx) : List Expr → List Nat → Prop
  | nil : NmTs X [] []
  | cons {x : Str} {pos : Pos} {i : Nat} {es : List Expr} {is : List Nat} : PG X (.Name x pos) (gName i) → NmTs X es is → NmTs X (.Name x pos :: es) (i :: is)
theorem NmTs.pgs {es : List Expr} {is : List Nat} (h : NmTs X es is) : PGs X es (gNames is) := by
  induction h with
  | nil => exact pgs_nil
  | cons h _ ih => exact pgs_cons h ih
theorem gt_n (i : Nat) (hN : X.N.Nodup) (hi : X.N[i]? = some x := by rfl) (hx : Loc X.env.scope x := by first | exact Or.inl rfl | exact Or.inr rfl) (hf : X.fn x = true ∨ X.env.scope.names.lookup x = some .local := by first | exact .inl rfl | exact .inr rfl) : PG X (.Name x pos) (gName i) := pg_name hN hi hx hf
theorem gv_tup {es : List Expr} {is : List Nat} {k : Nat} (hc : X.calm = true) (h : NmTs X es is) (hn : (assignEach es X.env).length = is.length := by rfl) (hst : (assignEach es X.env).findIdx? (·.1) = none := by rfl) : PGv X (.Tuple es k pos) (bTup is) is :=
  gv_of (pg_tup hc h.pgs hn hst) (gd_tup rfl)
theorem sv_n (i : Nat) (hN : X.N.Nodup) (he : PEv X e fa) (hi : X.N[i]? = some x := by rfl) (hx : Loc X.env.scope x := by first | exact Or.inl rfl | exact Or.inr rfl) (hs : swapsWith e (some (.Name x pos')) pos.line X.env = pure false := by rfl)
    (hf : X.fn x = true ∨ X.env.scope.names.lookup x = some .local := by first | exact .inl rfl | exact .inr rfl) : PSv X (.Assign [.Name x pos'] e pos) (sSet i fa) := sv_set he (ps_set hN hi hx he hs hf)
theorem ev_tupE {j : Nat} (h : PAv X es fs) : PEv X (.Tuple es j pos) (bTupE fs) := ev_tup h (pe_tup h)
theorem ev_lstE (h : PAv X es fs) : PEv X (.List es pos) (bLstE fs) := ev_lst h (pe_lst h)
theorem ev_join {o : Expr} {fo : Ex} {apos cpos : Pos} (ho : PEv X o fo) (ha : PAv X (e :: es) fs) (hbase : attributeBase o "join" X.env (eval o X.env) = eval o X.env := by rfl)
    (hfew : ((backTo cpos (starEach (e :: es) X.env)).all (fun x => !x.1) && (backToKw cpos (keywordEach [] X.env)).all (fun x => x.1.isSome)
      && decide ((e :: es).length + ([] : List Keyword).length + (if ([] : List Keyword).isEmpty then 0 else 1) < 30)) = true := by rfl)
    (hline : (apos.endLine == cpos.line) = true := by rfl) (hs : starEach (e :: es) X.env = (false, eval e X.env) :: starEach es X.env := by rfl) (hplain : (backTo cpos (starEach es X.env)).any (·.1) = false := by rfl) :
    PEv X (.Call (.Attribute o "join" apos) (e :: es) [] cpos) (bMt joinD fo fs) :=
  PE.imp (pe_bm PySem.F.plainAttrs_str PySem.F.slot_str_join PySem.F.type_str_join mt_join ho ha hbase hfew hline hs hplain) fun _ _ _ h => read_mt mtd_join h
theorem ev_sindex {o : Expr} {fo : Ex} {apos cpos : Pos} (ho : PEv X o fo) (ha : PAv X (e :: es) fs) (hbase : attributeBase o "index" X.env (eval o X.env) = eval o X.env := by rfl)
    (hfew : ((backTo cpos (starEach (e :: es) X.env)).all (fun x => !x.1) && (backToKw cpos (keywordEach [] X.env)).all (fun x => x.1.isSome)
      && decide ((e :: es).length + ([] : List Keyword).length + (if ([] : List Keyword).isEmpty then 0 else 1) < 30)) = true := by rfl)
    (hline : (apos.endLine == cpos.line) = true := by rfl) (hs : starEach (e :: es) X.env = (false, eval e X.env) :: starEach es X.env := by rfl) (hplain : (backTo cpos (starEach es X.env)).any (·.1) = false := by rfl) :
    PEv X (.Call (.Attribute o "index" apos) (e :: es) [] cpos) (bMt sindexD fo fs) :=
  PE.imp (pe_bm PySem.F.plainAttrs_str PySem.F.slot_str_index PySem.F.type_str_index mt_sindex ho ha hbase hfew hline hs hplain) fun _ _ _ h => read_mt mtd_sindex h
theorem ev_append {i : Nat} {p1 apos cpos : Pos} (ho : PE X (.Name x p1) (tVar i)) (ha : PAv X (e :: es) fs) (hbase : attributeBase (.Name x p1) "append" X.env (eval (.Name x p1) X.env) = eval (.Name x p1) X.env := by rfl)
    (hfew : ((backTo cpos (starEach (e :: es) X.env)).all (fun x => !x.1) && (backToKw cpos (keywordEach [] X.env)).all (fun x => x.1.isSome)
      && decide ((e :: es).length + ([] : List Keyword).length + (if ([] : List Keyword).isEmpty then 0 else 1) < 30)) = true := by rfl)
    (hline : (apos.endLine == cpos.line) = true := by rfl) (hs : starEach (e :: es) X.env = (false, eval e X.env) :: starEach es X.env := by rfl) (hplain : (backTo cpos (starEach es X.env)).any (·.1) = false := by rfl) :
    PEv X (.Call (.Attribute (.Name x p1) "append" apos) (e :: es) [] cpos) (bMu i appendD fs) :=
  PE.imp (pe_bm PySem.F.plainAttrs_list PySem.F.slot_list_append PySem.F.type_list_append mt_append ho ha hbase hfew hline hs hplain) fun _ _ _ h => read_mu mud_append h
theorem ev_extend {i : Nat} {p1 apos cpos : Pos} (ho : PE X (.Name x p1) (tVar i)) (ha : PAv X (e :: es) fs) (hbase : attributeBase (.Name x p1) "extend" X.env (eval (.Name x p1) X.env) = eval (.Name x p1) X.env := by rfl)
    (hfew : ((backTo cpos (starEach (e :: es) X.env)).all (fun x => !x.1) && (backToKw cpos (keywordEach [] X.env)).all (fun x => x.1.isSome)
      && decide ((e :: es).length + ([] : List Keyword).length + (if ([] : List Keyword).isEmpty then 0 else 1) < 30)) = true := by rfl)
    (hline : (apos.endLine == cpos.line) = true := by rfl) (hs : starEach (e :: es) X.env = (false, eval e X.env) :: starEach es X.env := by rfl) (hplain : (backTo cpos (starEach es X.env)).any (·.1) = false := by rfl) :
    PEv X (.Call (.Attribute (.Name x p1) "extend" apos) (e :: es) [] cpos) (bMu i extendD fs) :=
  PE.imp (pe_bm PySem.F.plainAttrs_list PySem.F.slot_list_extend PySem.F.type_list_extend mt_extend ho ha hbase hfew hline hs hplain) fun _ _ _ h => read_mu mud_extend h
theorem ev_popAt {i : Nat} {p1 apos cpos : Pos} (ho : PE X (.Name x p1) (tVar i)) (ha : PAv X (e :: es) fs) (hbase : attributeBase (.Name x p1) "pop" X.env (eval (.Name x p1) X.env) = eval (.Name x p1) X.env := by rfl)
    (hfew : ((backTo cpos (starEach (e :: es) X.env)).all (fun x => !x.1) && (backToKw cpos (keywordEach [] X.env)).all (fun x => x.1.isSome)
      && decide ((e :: es).length + ([] : List Keyword).length + (if ([] : List Keyword).isEmpty then 0 else 1) < 30)) = true := by rfl)
    (hline : (apos.endLine == cpos.line) = true := by rfl) (hs : starEach (e :: es) X.env = (false, eval e X.env) :: starEach es X.env := by rfl) (hplain : (backTo cpos (starEach es X.env)).any (·.1) = false := by rfl) :
    PEv X (.Call (.Attribute (.Name x p1) "pop" apos) (e :: es) [] cpos) (bMu i popAtD fs) :=
  PE.imp (pe_bm PySem.F.plainAttrs_list PySem.F.slot_list_pop PySem.F.type_list_pop mt_popAt ho ha hbase hfew hline hs hplain) fun _ _ _ h => read_mu mud_popAt h
theorem sv_put {i : Nat} {p1 ipos : Pos} {k : Expr} (ho : PE X (.Name x p1) (tVar i)) (hk : PEv X k fb) (he : PEv X e fa) (hs : swapsWithSole [.Subscript (.Name x p1) k ipos] e pos.line X.env = pure false := by rfl) (hw : swappedStores [.Subscript (.Name x p1) k ipos] e X.env = pure none := by rfl) (h1 : (assignEach [.Subscript (.Name x p1) k ipos] X.env).map (·.2) = [assign (.Subscript (.Name x p1) k ipos) X.env] := by rfl)
    (ha : ∀ v, assign (.Subscript (.Name x p1) k ipos) X.env v = (do
      let ov ← holding [v] (eval (.Name x p1) X.env)
      let iv ← holding [v, ov] (eval k X.env)
      standAt ipos
      holding [v, ov, iv] (setItem ov iv v)
      release [v, ov, iv] []) := by intro _; rfl) :
    PSv X (.Assign [.Subscript (.Name x p1) k ipos] e pos) (sPut i fb fa) := PS.imp (ps_asg (ev_fz he) (pg_sub ho hk set_list ha) hs hw h1) fun D σ H h => read_put h
structure DefOk (P : Program) (w : World) (K : PySem.W.Frag) (mg : Str → Option Value) (base : Heap) (x : Str) (k : Nat) (ps : List Str) (F : Fx) : Prop where
  ex : ∃ (f : Addr) (fd : FuncData), mg x = some (.ref f) ∧ PySem.W.keepIn K (.ref f) = true ∧ Binds K fd ps [] ∧ FnOk P w K mg base CX0 k f fd ps (spV K F)
structure DF (K : PySem.W.Frag) (mg : Str → Option Value) (x : Str) (st : Stmt) : Prop where
  ex : ∃ (f : Addr) (fd : FuncData), mg x = some (.ref f) ∧ Fun K x x st f fd
theorem def_of {P : Program} {w : World} {K : PySem.W.Frag} {mg : Str → Option Value} {base : Heap} {x : Str} {st : Stmt} {ps : List Str} {k : Nat} {F : Fx} (T : DF K mg x st) (h : ∀ (f : Addr) (fd : FuncData), Fun K x x st f fd → FnOk P w K mg base CX0 k f fd ps (spV K F))
    (hb : ∀ (kV doc pm : Value) (an : Option Addr) (cdv ct : Value) (us : List Value), us.length = ps.length →
      bindArgs (PySem.W.fnOf x x (defArgs st) (defBody st) (defScope st) .none kV doc pm an cdv ct) ⟨us, []⟩ = pure (ps.zip us)) : DefOk P w K mg base x k ps F := by
  obtain ⟨f, fd, hm, G⟩ := T.ex
  exact ⟨f, fd, hm, G.kp, G.binds hb, h f fd G⟩
theorem ev_call {k : Nat} {ps : List Str} {F : Fx} (h : DefOk X.prog X.w X.K X.mg X.base x k ps F) (hr : Room k X.A) (ha : PAv X (e :: es) fs) (hg : Gl X x := by rfl) (hdb : (x == ("__debug__" : Str)) = false := by decide)
    (he : starEach (e :: es) X.env = (false, eval e X.env) :: starEach es X.env := by rfl) (hpl : (backTo pos (starEach es X.env)).any (·.1) = false := by rfl) : PEv X (.Call (.Name x p) (e :: es) [] pos) (bCall F fs) := by
  obtain ⟨f, fd, hm, hk, hb, G⟩ := h.ex
  exact PE.imp (pe_call G hr hg hm hk hb .nil pass0 ha hdb he hpl) fun σ H Q q => read_call q
end
end M
namespace M
open PySem PySem.Spec PyProof.Rows L2 TL
def mulT : D → D → Option RV
  | .tup xs, .int k => if xs.isEmpty = false ∧ 1 ≤ k ∧ k ≤ 1000 ∧ xs.length ≤ 1000 then some (.d (.tup (List.replicate k.toNat xs).flatten)) else none
  | _, _ => none
theorem tuple_mulOne (l : Addr) (items : Array Value) (n : Nat) (sl : Array (Option Value)) (dd : Option Addr) (u : Tok) :
    Meets (Builtin.«tuple.__mul__» ⟨[.ref l, .int 1 u], []⟩) (fun _ R s => s.heap.get? l = some { cls := .type "tuple", dict := dd, data := .seq items n, slots := sl } ∧
      R (.ok (.ret (Value.ref l))) s) :=
  .of_wp fun prog w A R s h => by
    obtain ⟨hp, g, d, tk, os⟩ := s
    obtain ⟨hl, h⟩ := h
    have f1 := AutoSeq1.idx_int
    have c0 : (decide ((1 : Int) < -(2 ^ 63)) || decide ((1 : Int) ≥ 2 ^ 63)) = false := by decide
    have c1 : (items.isEmpty || ((1 : Int) == 1)) = true := by simp
    wp_walk using wpAny_loadPart' hl
    exact ⟨_, rfl, h⟩
def rRep1 (K : PySem.W.Frag) : R2 := fun x y H Q => ∃ l xs, x = .ref l ∧ y = .int 1 ∧ SqT K H l xs ∧ Q (.ref l) H
theorem op_rep1 {X : Cx} : OpR X (binaryOp .Mult) (rRep1 X.K) := by
  intro pins s σ H x y v u Q I rx ry h
  obtain ⟨l, xs, rfl, rfl, hT, q⟩ := h
  cases rx
  obtain ⟨t, rfl⟩ := ry
  obtain ⟨its, r, ⟨⟨cls, dd, data, sl⟩, ho, hc, n, hd⟩, hs⟩ := I.tuple hT
  simp only at hc hd
  subst hc hd
  refine wpAny_binaryOp_repeat_ref (T := "tuple") (U := "int") (by decide) ⟨_, ho, rfl⟩ (fun s' => typeIs_int s' 1 t) noFill_tuple_mul F.fills_int_mul F.slot_int_rmul repeat_tuple F.slot_int_index.lookup
    (call_meets F.slot_int_rmul (typeIs_int s 1 t) F.entry_int_rmul (F.args_int_rmul_2 _ _) (int_rmul_tuple 1 t l its.toArray n dd sl)
      ⟨ho, rfl, ⟨_, ho, rfl⟩, call_meets F.slot_tuple_mul ⟨_, ho, rfl⟩ F.entry_tuple_mul (F.args_tuple_mul_2 _ _) (tuple_mulOne l its.toArray n sl dd t) ⟨ho, ?_⟩⟩)
  exact ⟨.ref l, H, I, rfl, q⟩
theorem RDs.rep {K : PySem.W.Frag} {G : Hp} {ds : List D} {vs : List V} (h : RDs K G ds vs) : ∀ n : Nat, RDs K G (List.replicate n ds).flatten (List.replicate n vs).flatten
  | 0 => rfl
  | n + 1 => by
    rw [List.replicate_succ, List.replicate_succ, List.flatten_cons, List.flatten_cons]
    exact h.append (RDs.rep h n)
theorem opd_mulT {K : PySem.W.Frag} : OpD K (fun x y H Q => rRep1 K x y H Q ∨ rRepT K x y H Q) mulT := by
  intro G H x y dx dy z s hx hy e Q k
  unfold mulT at e
  split at e
  · split at e
    rotate_left
    · cases e
    rename_i xs n h
    cases e
    obtain ⟨p, vs, e1, e2, e3⟩ := hx.tup s
    have hne : vs ≠ [] := fun z => by
      have := e3.length
      rw [z] at this
      have : xs = [] := List.eq_nil_of_length_eq_zero this.symm
      rw [this] at h
      exact absurd h.1 (by simp)
    by_cases h1 : n = 1
    · subst h1
      refine .inl ⟨p, vs, e1, hy.int, e2, ?_⟩
      rw [← e1]
      have : (List.replicate (1 : Int).toNat xs).flatten = xs := by simp
      rw [this] at k
      exact k _ _ (.same hx.rdT)
    · exact .inr ⟨p, n, vs, e1, hy.int, e2, hne, by omega, h.2.2.1, by rw [e3.length]; exact h.2.2.2, fun q hq => k _ _ (.tup hq (e3.rep _))⟩
  · cases e
theorem ev_mulT {X : Cx} {a b : Expr} {fa fb : Ex} {pos : Pos} (ha : PEv X a fa) (hb : PEv X b fb) : PEv X (.BinOp a .Mult b pos) (bOp mulT fa fb) := ev_op (OpR.or op_rep1 op_repT) opd_mulT ha hb
theorem CallR_or {X : Cx} {f : Value} {r r' : List V → Hp → VK → Prop} (h : CallR X f r) (h' : CallR X f r') : CallR X f (fun x H Q => r x H Q ∨ r' x H Q) := CallR.or h h'
end M
namespace M
open PySem PySem.Spec PyProof.Rows L2 TL
def iRange3 (f g h : Ex) : Ix := fun ρ => match f ρ with
  | some (.d (.int i), ρ1) => match g ρ1 with
    | some (.d (.int j), ρ2) => match h ρ2 with
      | some (.d (.int c), ρ3) => if c = -1 ∧ -(2 ^ 62) ≤ i ∧ i < 2 ^ 62 ∧ -(2 ^ 62) ≤ j ∧ j < 2 ^ 62 then some ((List.range (i - j).toNat).map fun k : Nat => D.int (i + (k : Int) * (-1)), ρ3) else none
      | _ => none
    | _ => none
  | _ => none
theorem jok_rangeC {K : PySem.W.Frag} {lo c : Int} {n : Nat} {G : Hp} : JOk K (Itc lo c n) G ((List.range n).map fun k : Nat => D.int (lo + (k : Int) * c)) := fun H i s => by
  refine ⟨fun h => by
    have h : i < n := by simpa using h
    exact h, fun h => by
    have h : n ≤ i := by simpa using h
    exact h, fun v H' x y e => ?_⟩
  obtain ⟨rfl, rfl⟩ := y
  simp only [List.getElem?_map] at e
  rw [List.getElem?_range (by
    by_cases h : i < n
    · exact h
    · rw [List.getElem?_eq_none (by simpa using h)] at e; cases e)] at e
  cases e
  exact .same rfl
section
variable {X : Cx} {a b c e : Expr} {es : List Expr} {fa fb fc : Ex} {fs : Ax} {pos p : Pos} {x : Str}
theorem iv_range3 {tg : Expr} (hg : Gl X "range") (hm : X.mg "range" = none) (h : PEv X a fa) (h2 : PEv X b fb) (h3 : PEv X c fc) (hst : starEach [a, b, c] X.env = (false, eval a X.env) :: starEach [b, c] X.env := by rfl) (hst2 : starEach [b, c] X.env = (false, eval b X.env) :: starEach [c] X.env := by rfl)
    (hst3 : starEach [c] X.env = (false, eval c X.env) :: starEach [] X.env := by rfl) (hpl : (backTo pos (starEach [b, c] X.env)).any (·.1) = false := by rfl) :
    PIv X tg (.Call (.Name "range" p) [a, b, c] [] pos) (iRange3 fa fb fc) := by
  refine iv_of (pi_range3 hg hm (pa_cons h (pa_cons h2 (pa_cons h3 pa_nil hst3) hst2) hst) hst hpl) fun σ H R h => ?_
  obtain ⟨F, G, ρ, xs, ρ', R0, e, k⟩ := h
  unfold iRange3 at e
  split at e
  rotate_left
  · cases e
  rename_i i ρ1 e1
  split at e
  rotate_left
  · cases e
  rename_i j ρ2 e2
  split at e
  rotate_left
  · cases e
  rename_i c ρ3 e3
  split at e
  rotate_left
  · cases e
  rename_i hb
  cases e
  obtain ⟨hc, b1, b2, b3, b4⟩ := hb
  subst hc
  refine ⟨F, G, ρ, _, ρ1, R0, e1, fun v G1 H1 s1 R1 q1 => ⟨F, G1, ρ1, _, ρ2, R1, e2, fun w G2 H2 s2 R2 q2 => ⟨F, G2, ρ2, _, _, R2, e3, fun u G3 H3 s3 R3 q3 => ?_⟩⟩⟩
  cases (show v = .int i from q1)
  cases (show w = .int j from q2)
  cases (show u = .int (-1) from q3)
  exact ⟨i, j, -1, _, rfl, RgC.neg b1 b2 b3 b4, k _ H3 G3 ((s1.trans s2).trans s3) R3 jok_rangeC⟩
theorem sv_setComp2 {elt tg iter tg1 iter1 : Expr} {ifs ifs1 : List Expr} {scope : Scope} {own : List (Str × Nat)} {vs1 : List Nat} {pos spos : Pos} {it it1 : Ix} {bind bind1 : Bx} {is is1 : List Nat} {cond cond1 : Tx} {fe : Ex} {i : Nat} {y : Str} {py : Pos} (hc : X.calm = true) (hN : X.N.Nodup) (hy : X.N[i]? = some y) (hyl : X.env.scope.names.lookup y = some .local)
    (hsw : swapsWith (.ListComp elt [⟨tg, iter, ifs, 0⟩, ⟨tg1, iter1, ifs1, 0⟩] scope pos) (some (.Name y py)) spos.line X.env = pure true) (ok : BlkOk X.N X.env.scope scope own) (hi : PIv X tg iter it)
    (hg : ∀ (s : Shared) (H : Hp) (C : Addr) (cl : List (Str × Addr)) (fp : List Addr), PGv (X.blk s H scope (compEnvC scope cl C X.env) fp) tg bind is)
    (ht : ∀ (s : Shared) (H : Hp) (C : Addr) (cl : List (Str × Addr)) (fp : List Addr), PTsv (X.blk s H scope (compEnvC scope cl C X.env) fp) ifs cond)
    (hi1 : ∀ (s : Shared) (H : Hp) (C : Addr) (cl : List (Str × Addr)) (fp : List Addr), PIv (X.blk s H scope (compEnvC scope cl C X.env) fp) tg1 iter1 it1)
    (hg1 : ∀ (s : Shared) (H : Hp) (C : Addr) (cl : List (Str × Addr)) (fp : List Addr), PGv (X.blk s H scope (compEnvC scope cl C X.env) fp) tg1 bind1 is1)
    (ht1 : ∀ (s : Shared) (H : Hp) (C : Addr) (cl : List (Str × Addr)) (fp : List Addr), PTsv (X.blk s H scope (compEnvC scope cl C X.env) fp) ifs1 cond1)
    (he : ∀ (s : Shared) (H : Hp) (C : Addr) (cl : List (Str × Addr)) (fp : List Addr), PEv (X.blk s H scope (compEnvC scope cl C X.env) fp) elt fe)
    (his : (is.all fun i => (own.map (·.2)).contains i) = true := by rfl) (his1 : (is1.all fun i => vs1.contains i) = true := by rfl) (hvs : (vs1.all fun i => (own.map (·.2)).contains i) = true := by rfl)
    (hs : ∀ x, foldedSetIterable iter X.env x = pure x := by intro _; rfl) (hs1 : ∀ env x, foldedSetIterable iter1 env x = pure x := by intro _ _; rfl) :
    PSv X (.Assign [.Name y py] (.ListComp elt [⟨tg, iter, ifs, 0⟩, ⟨tg1, iter1, ifs1, 0⟩] scope pos) spos) (sSet i (bComp2 it (own.map (·.2)) vs1 bind cond it1 bind1 cond1 fe)) := by
  have hv : ∀ i ∈ vs1, i ∈ own.map (·.2) := fun i hi => by
    rw [List.all_eq_true] at hvs
    exact List.contains_iff_mem.mp (hvs i hi)
  refine PS.imp (ps_setLc2 (g := tG X.K bind is) (tt := tT X.K cond) (wi1 := tIt X.K it1) (g1 := tG X.K bind1 is1) (tt1 := tT X.K cond1) (te := tE X.K (bFz fe)) hc hN hy hyl hsw hi ok hv hg ht hi1 hg1 ht1 (fun s H C cl fp => ev_fz (he s H C cl fp)) hs hs1) fun D σ H h => ?_
  obtain ⟨F, G, ρ, fl, ρ', R, q, k⟩ := h
  unfold sSet at q
  split at q
  · cases q
  rename_i r ρ1 e1
  obtain ⟨ρ2, e2, eq⟩ := Option.map_eq_some_iff.mp q
  cases eq
  exact read_comp2 itd_self gd_self (fun i hi => by
    rw [List.all_eq_true] at his
    exact List.contains_iff_mem.mp (his i hi)) itd_self gd_self (fun i hi => by
    rw [List.all_eq_true] at his1
    exact List.contains_iff_mem.mp (his1 i hi)) hv ⟨F, G, ρ, r, ρ1, R, e1, fun v G1 H1 s1 R1 q => k _ G1 H1 s1 (R1.put q e2)⟩
def aApp (fs : Ax) (ds : List D) : Ax := fun ρ => match fs ρ with
  | none => none
  | some (rs, ρ1) => some (rs ++ ds.map RV.d, ρ1)
theorem RNs.app {K : PySem.W.Frag} {G : Hp} {σ : Sg} {ds : List D} {us : List V} (hd : RDs K G ds us) : ∀ {rs : List RV} {vs : List V}, RNs K G σ rs vs → RNs K G σ (rs ++ ds.map RV.d) (vs ++ us)
  | [], vs, h => by
    cases h
    have : ∀ {ds : List D} {us : List V}, RDs K G ds us → RNs K G σ (ds.map RV.d) us := by
      intro ds
      induction ds with
      | nil => intro us h; exact h
      | cons d ds ih =>
        rintro us ⟨x, xs, e1, e2, e3⟩
        exact ⟨x, xs, e1, e2, ih e3⟩
    exact this hd
  | r :: rs, vs, ⟨x, xs, e1, e2, e3⟩ => by
    subst e1
    exact ⟨x, xs ++ us, rfl, e2, RNs.app hd e3⟩
theorem read_callD {K : PySem.W.Frag} {f : Fx} {fs : Ax} {ds : List D} {dvs : List V} {E : XK} {σ : Sg} {H : Hp} {Q : VK} (hd : ∀ G, RDs K G ds dvs) (h : tE K (bCall f (aApp fs ds)) σ H Q) : tCall (spV K f) dvs E (tAr K fs) σ H Q := by
  have h := read_call (E := E) h
  obtain ⟨F, G, ρ, rs, ρ', R, e, k⟩ := h
  unfold aApp at e
  split at e
  · cases e
  rename_i rs0 ρ1 e1
  cases e
  refine ⟨F, G, ρ, rs0, _, R, e1, fun vs G1 H1 s1 R1 q1 => ?_⟩
  have this : spV K f ((vs ++ dvs) ++ []) H1 Q E := k (vs ++ dvs) G1 H1 s1 R1 (RNs.app (hd G1) q1)
  rw [List.append_nil] at this
  exact this
structure DefD (P : Program) (w : World) (K : PySem.W.Frag) (mg : Str → Option Value) (base : Heap) (x : Str) (k : Nat) (ps : List Str) (dvs : List V) (F : Fx) : Prop where
  ex : ∃ (f : Addr) (fd : FuncData), mg x = some (.ref f) ∧ PySem.W.keepIn K (.ref f) = true ∧ (∀ j, j ≤ dvs.length → ∃ ds, Vals (dvs.drop j) ds ∧ Binds K fd ps ds) ∧ FnOk P w K mg base CX0 k f fd ps (spV K F)
theorem ev_callD {k : Nat} {ps : List Str} {F : Fx} {dvs : List V} {ds : List D} (h : DefD X.prog X.w X.K X.mg X.base x k ps dvs F) (j : Nat) (hj : j ≤ dvs.length) (hd : ∀ G, RDs X.K G ds (dvs.drop j)) (hr : Room k X.A) (ha : PAv X (e :: es) fs) (hg : Gl X x := by rfl) (hdb : (x == ("__debug__" : Str)) = false := by decide)
    (he : starEach (e :: es) X.env = (false, eval e X.env) :: starEach es X.env := by rfl) (hpl : (backTo pos (starEach es X.env)).any (·.1) = false := by rfl) : PEv X (.Call (.Name x p) (e :: es) [] pos) (bCall F (aApp fs ds)) := by
  obtain ⟨f, fd, hm, hk, hb, G⟩ := h.ex
  obtain ⟨us, hu, hb⟩ := hb j hj
  exact PE.imp (pe_call G hr hg hm hk hb hu pass0 ha hdb he hpl) fun σ H Q q => read_callD hd q
structure DFD (K : PySem.W.Frag) (mg : Str → Option Value) (x : Str) (st : Stmt) (dvs : List V) : Prop where
  ex : ∃ (f : Addr) (fd : FuncData), mg x = some (.ref f) ∧ FunD K x x (defArgs st) (defBody st) (defScope st) dvs [] f fd
theorem fnD_ok {P : Program} {w : World} {K : PySem.W.Frag} {mg : Str → Option Value} {base : Heap} {x qual : Str} {pa : Arguments} {bd : List Stmt} {sc : Scope} {dvs : List V} {f : Addr} {fd : FuncData} {N ps : List Str} {k : Nat} {body : Sx} (F : FunD K x qual pa bd sc dvs [] f fd) (S : FnScope N ps sc)
    (hb : ∀ (cdv : Value) (A : Around) (outer : List Env) (s : Shared) (H : Hp) (E : XK), Room k (A.deeper (envOfC qual sc s.heap.objs.size f cdv)) →
      PBv (cxOf CX0 P w K mg base N qual sc f cdv A outer s H E).nox bd body) : FnOk P w K mg base CX0 (k + 1) f fd ps (spV K (runB N.length ps.length body)) := by
  have hl : ∀ args r as, runB N.length ps.length body args = some (r, as) → args.length = ps.length := fun args r as e => by
    unfold runB at e
    split at e
    · assumption
    · cases e
  refine F.ok S (fun vs H Q E h => ?_) (fun cdv A outer s H vs Q E hr h => ⟨tS K body, (hb cdv A outer s H E hr).nox, ?_⟩)
  · obtain ⟨F, G, args, r, as, R, ht, e, q⟩ := h
    have := R.len
    rw [← hl args r as e]
    simpa using this.symm
  · exact fn_body h
end
end M
namespace M
open PySem PySem.Spec PyProof.Rows L2 TL
def sNever : Sx := fun _ => none
theorem sv_never {X : Cx} {st : Stmt} : PSv X st sNever := PS.imp ps_never fun D σ H h => by
  obtain ⟨F, G, ρ, fl, ρ', R, q, k⟩ := h
  cases q
section
variable {X : Cx} {a b c e : Expr} {es : List Expr} {fa fb fc : Ex} {fs : Ax} {pos p p1 p2 tpos : Pos} {x y z : Str}
def bIsi2 (T U : String) (f : Ex) : Ex := fun ρ => match f ρ with
  | none => none
  | some (r, ρ1) => match pk ρ1 r.nrm with
    | none => none
    | some d => match tyD d with
      | none => none
      | some A => match kitB A T, kitB A U with
        | some true, _ => some (.d (.bl true), ρ1)
        | some false, some b => some (.d (.bl b), ρ1)
        | _, _ => none
theorem kit_any2 {K : PySem.W.Frag} {A T U : String} {b c : Bool} (h1 : kitB A T = some b) (h2 : b = true ∧ c = true ∨ b = false ∧ kitB A U = some c) : PySem.W.kitAny K (.type A) [.type T, .type U] = some c := by
  have e1 := kit_ty (K := K) h1
  unfold PySem.W.kitAny
  rw [e1]
  rcases h2 with ⟨rfl, rfl⟩ | ⟨rfl, h2⟩
  · rfl
  · have e2 := kit_ty (K := K) h2
    show PySem.W.kitAny K (.type A) [.type U] = some c
    unfold PySem.W.kitAny
    rw [e2]
    cases c <;> rfl
theorem ev_isi2 {T U : String} {j : Nat} (hg : Gl X "isinstance") (hm : X.mg "isinstance" = none) (hT : PE X (.Name y p1) (tC (.ty T))) (hU : PE X (.Name z p2) (tC (.ty U))) (ha : PEv X a fa)
    (he : starEach [a, .Tuple [.Name y p1, .Name z p2] j tpos] X.env = (false, eval a X.env) :: starEach [.Tuple [.Name y p1, .Name z p2] j tpos] X.env := by rfl) (hpl : (backTo pos (starEach [.Tuple [.Name y p1, .Name z p2] j tpos] X.env)).any (·.1) = false := by rfl)
    (he2 : starEach [.Tuple [.Name y p1, .Name z p2] j tpos] X.env = (false, eval (.Tuple [.Name y p1, .Name z p2] j tpos) X.env) :: starEach [] X.env := by rfl)
    (he3 : starEach [.Name y p1, .Name z p2] X.env = (false, eval (.Name y p1) X.env) :: starEach [.Name z p2] X.env := by rfl) (he4 : starEach [.Name z p2] X.env = (false, eval (.Name z p2) X.env) :: starEach [] X.env := by rfl) :
    PEv X (.Call (.Name "isinstance" p) [a, .Tuple [.Name y p1, .Name z p2] j tpos] [] pos) (bIsi2 T U fa) :=
  PE.imp (pe_callB call_isiT hg hm PyProof.Rows.boot_isinstance (pa_cons ha (pa_cons (pe_tup (pa_cons hT (pa_cons hU pa_nil he4) he3)) pa_nil he2) he) (by decide) (by decide) he hpl) fun σ H Q h => by
    obtain ⟨F, G, ρ, r, ρ', R, q, k⟩ := h
    unfold bIsi2 at q
    split at q
    · cases q
    rename_i ra ρ1 e1
    split at q
    · cases q
    rename_i d e2
    split at q
    · cases q
    rename_i A e3
    refine ⟨F, G, ρ, ra, ρ1, R, e1, fun v G1 H1 s1 R1 q1 => ?_⟩
    obtain ⟨G1', t1, R1', n1⟩ := nrm_step R1 q1
    refine ⟨by show 2 ≤ sizeLine; rw [sizeLine_num]; decide, fun l hl => ?_⟩
    have R2 : Rep X.K F (upd G1' l (.tup [.ty T, .ty U])) (upd H1 l (.tup [.ty T, .ty U])) σ ρ1 := R1'.newG hl
    have ro := pk_ro R2 (n1.mono (Same.updN (R1'.gNone hl))) e2
    have fin : ∀ b : Bool, (PySem.W.kitAny X.K (.type A) [.type T, .type U] = some b) → q = q → (some (r, ρ') = some (RV.d (.bl b), ρ1)) → rIsiT X.K [v, .ref l] (upd H1 l (.tup [.ty T, .ty U])) Q := fun b hb _ hr => by
      cases hr
      exact ⟨v, l, [.ty T, .ty U], .type A, [.type T, .type U], b, rfl, upd_same, .cons (.ty T) (.cons (.ty U) .nil), ty_of R2.gh ro e3, hb, k _ _ _ ((s1.trans t1).trans (Same.updN (R1'.gNone hl))) R2 rfl⟩
    split at q
    · rename_i h1
      exact fin true (kit_any2 h1 (.inl ⟨rfl, rfl⟩)) rfl q.symm
    · rename_i b h1 h2
      exact fin b (kit_any2 h1 (.inr ⟨rfl, h2⟩)) rfl q.symm
    · cases q
def bFld (f : Str) (fa : Ex) : Ex := fun ρ => match fa ρ with
  | some (.d (.ins _ ns xs), ρ1) => ((ns.zip xs).lookup f).map fun d => (.d d, ρ1)
  | _ => none
theorem look_rds {K : PySem.W.Frag} {G : Hp} {f : Str} {d : D} : ∀ {ns : List Str} {xs : List D} {fs : List (Str × V)}, fs.map (·.1) = ns → RDs K G xs (fs.map (·.2)) → (ns.zip xs).lookup f = some d → f ∈ ns ∧ ∃ v, fs.lookup f = some v ∧ RD K G d v
  | [], xs, fs, _, _, e => by simp at e
  | n :: ns, [], fs, _, _, e => by simp at e
  | n :: ns, x :: xs, [], h, _, _ => by simp at h
  | n :: ns, x :: xs, (m, v) :: fs, h, ⟨u, us, e1, e2, e3⟩, e => by
    simp only [List.map_cons, List.cons.injEq] at h e1
    obtain ⟨rfl, h⟩ := h
    obtain ⟨rfl, rfl⟩ := e1
    simp only [List.zip_cons_cons, List.lookup_cons] at e ⊢
    by_cases hf : (f == m) = true
    · rw [hf] at e ⊢
      cases e
      exact ⟨by rw [eq_of_beq hf]; exact List.mem_cons_self, v, rfl, e2⟩
    · have hf : (f == m) = false := by simpa using hf
      rw [hf] at e ⊢
      obtain ⟨h1, v', h2, h3⟩ := look_rds h e3 e
      exact ⟨List.mem_cons_of_mem _ h1, v', h2, h3⟩
theorem ev_fld {f : Str} (ha : PEv X a fa) (hb : attributeBase a f X.env (eval a X.env) = eval a X.env := by rfl) : PEv X (.Attribute a f pos) (bFld f fa) := PE.imp (pe_fld ha hb) fun σ H Q h => by
  obtain ⟨F, G, ρ, r, ρ', R, q, k⟩ := h
  unfold bFld at q
  split at q
  rotate_left
  · cases q
  rename_i nm ns xs ρ1 e1
  obtain ⟨d, ez, eq⟩ := Option.map_eq_some_iff.mp q
  cases eq
  refine ⟨F, G, ρ, _, _, R, e1, fun v G1 H1 s1 R1 q1 => ?_⟩
  obtain ⟨a, C, dx, fs, rfl, h1, h2, h3, h4, h5⟩ := q1
  obtain ⟨hf, u, h6, h7⟩ := look_rds h4 h5 ez
  exact ⟨a, C, dx, fs, u, rfl, R1.gh _ _ h1, h2, h3 f hf, h6, k u G1 H1 s1 R1 h7⟩
end
structure Ob (K : PySem.W.Frag) (F : Fm) (G H : Hp) (σ : Sg) (ρ : Sl) (o C dx : Addr) (fs : List (Str × D)) (fv : List (Str × V)) : Prop where
  rep : Rep K F G H σ ρ
  hp : H o = some (.ins C dx fv)
  gp : G o = none
  fp : F.hp o = none
  ns : ∀ i b ys, oAt ρ i b ys → ¬ vAt σ i (.ref o)
  nm : fv.map (·.1) = fs.map (·.1)
  rds : RDs K G (fs.map (·.2)) (fv.map (·.2))
abbrev Ib := Sl → List (Str × D) → Option (Fl × Sl × List (Str × D))
def tI (K : PySem.W.Frag) (o C dx : Addr) (f : Ib) : TS := fun D σ H => ∃ F G ρ fs fv fl ρ' fs', Ob K F G H σ ρ o C dx fs fv ∧ f ρ fs = some (fl, ρ', fs') ∧
  ∀ σ' G' H' fv', Same G G' → Ob K F G' H' σ' ρ' o C dx fs' fv' → match fl with
    | .nx => D.nx σ' H'
    | _ => False
def PIb (X : Cx) (o C dx : Addr) (st : List Stmt) (f : Ib) : Prop := PSs X st (tI X.K o C dx f)
theorem Ob.lend {K : PySem.W.Frag} {F : Fm} {G H : Hp} {σ : Sg} {ρ : Sl} {o C dx : Addr} {fs : List (Str × D)} {fv : List (Str × V)} (a : Ob K F G H σ ρ o C dx fs fv) : Rep K ⟨upd F.hp o (.ins C dx fv), F.par⟩ G H σ ρ := a.rep.lend a.hp a.gp a.ns
theorem Ob.of {K : PySem.W.Frag} {F : Fm} {G H G0 : Hp} {σ : Sg} {ρ : Sl} {o C dx : Addr} {fs : List (Str × D)} {fv : List (Str × V)} (R : Rep K ⟨upd F.hp o (.ins C dx fv), F.par⟩ G H σ ρ) (fp : F.hp o = none) (nm : fv.map (·.1) = fs.map (·.1)) (r : RDs K G0 (fs.map (·.2)) (fv.map (·.2))) (s : Same G0 G) : Ob K F G H σ ρ o C dx fs fv := by
  obtain ⟨R', h1, h2, h3⟩ := R.back fp
  exact ⟨R', h1, h2, fp, h3, nm, RDs.mono s _ _ r⟩
def iSt (f : Sx) (g : Ib) : Ib := fun ρ fs => match f ρ with
  | some (.nx, ρ1) => g ρ1 fs
  | _ => none
def iNil : Ib := fun ρ fs => some (.nx, ρ, fs)
def putD (f : Str) (d : D) : List (Str × D) → List (Str × D)
  | [] => [(f, d)]
  | (n, x) :: r => if n = f then (n, d) :: r else (n, x) :: putD f d r
def selfAt (ρ : Sl) (o : Addr) : Bool := match ρ[0]? with
  | some (some (SV.d (D.ptr (V.ref q)))) => decide (q = o)
  | _ => false
def iFld (o : Addr) (f : Str) (fe : Ex) (g : Ib) : Ib := fun ρ fs => match bFz fe ρ with
  | some (.d d, ρ1) => if fs.length < 1000 ∧ selfAt ρ1 o = true then g ρ1 (putD f d fs) else none
  | _ => none
theorem putF_nm {f : Str} {v : V} {d : D} : ∀ {fv : List (Str × V)} {fs : List (Str × D)}, fv.map (·.1) = fs.map (·.1) → (putF f v fv).map (·.1) = (putD f d fs).map (·.1)
  | [], [], _ => rfl
  | [], _ :: _, h => by simp at h
  | _ :: _, [], h => by simp at h
  | (n, u) :: fv, (m, x) :: fs, h => by
    simp only [List.map_cons, List.cons.injEq] at h
    obtain ⟨rfl, h⟩ := h
    unfold putF putD
    by_cases e : n = f
    · simp [e, h]
    · simp [e, putF_nm (f := f) (v := v) (d := d) h]
theorem putF_rds {K : PySem.W.Frag} {G : Hp} {f : Str} {v : V} {d : D} (hv : RD K G d v) : ∀ {fv : List (Str × V)} {fs : List (Str × D)}, fv.map (·.1) = fs.map (·.1) → RDs K G (fs.map (·.2)) (fv.map (·.2)) → RDs K G ((putD f d fs).map (·.2)) ((putF f v fv).map (·.2))
  | [], [], _, _ => ⟨v, [], rfl, hv, rfl⟩
  | [], _ :: _, h, _ => by simp at h
  | _ :: _, [], h, _ => by simp at h
  | (n, u) :: fv, (m, x) :: fs, h, ⟨w, ws, e1, e2, e3⟩ => by
    simp only [List.map_cons, List.cons.injEq] at h e1
    obtain ⟨rfl, h⟩ := h
    obtain ⟨rfl, rfl⟩ := e1
    unfold putF putD
    by_cases e : n = f
    · simp only [e, if_true]
      exact ⟨v, _, rfl, hv, e3⟩
    · simp only [e, if_false]
      exact ⟨u, _, rfl, e2, putF_rds hv h e3⟩
section
variable {X : Cx} {e : Expr} {st : Stmt} {rest : List Stmt} {fe : Ex} {f : Sx} {g : Ib} {o C dx : Addr} {pos pos' p1 : Pos} {fn x : Str}
theorem ib_nil : PIb X o C dx [] iNil := PSs.imp pss_nil fun D σ H h => by
  obtain ⟨F, G, ρ, fs, fv, fl, ρ', fs', a, q, k⟩ := h
  cases q
  exact k σ G H fv (Same.refl G) a
theorem ib_st (h : PSv X st f) (hr : PIb X o C dx rest g) : PIb X o C dx (st :: rest) (iSt f g) := PSs.imp (pss_cons h hr) fun D σ H h => by
  obtain ⟨F, G, ρ, fs, fv, fl, ρ', fs', a, q, k⟩ := h
  unfold iSt at q
  split at q
  rotate_left
  · cases q
  rename_i ρ1 e1
  refine ⟨_, G, ρ, .nx, ρ1, a.lend, e1, fun σ1 G1 H1 s1 R1 => ?_⟩
  exact ⟨F, G1, ρ1, fs, fv, fl, ρ', fs', Ob.of R1 a.fp a.nm a.rds s1, q, fun σ2 G2 H2 fv' s2 a2 => k σ2 G2 H2 fv' (s1.trans s2) a2⟩
theorem ib_fld (hc : Cls X.K C) (hn : NoAttr X.K C fn) (he : PEv X e fe) (ho : PE X (.Name x p1) (tVar 0)) (hr : PIb X o C dx rest g)
    (hs : swapsWith e (some (.Attribute (.Name x p1) fn pos')) pos.line X.env = pure false := by rfl) :
    PIb X o C dx (.Assign [.Attribute (.Name x p1) fn pos'] e pos :: rest) (iFld o fn fe g) :=
  PSs.imp (pss_cons (ps_fld ho (ev_fz he) hs) hr) fun D σ H h => by
  obtain ⟨F, G, ρ, fs, fv, fl, ρ', fs', a, q, k⟩ := h
  unfold iFld at q
  split at q
  rotate_left
  · cases q
  rename_i d ρ1 e1
  split at q
  rotate_left
  · cases q
  rename_i hl
  have hρ : dAt ρ1 0 (.ptr (.ref o)) := by
    have hz := hl.2
    unfold selfAt at hz
    split at hz
    · rename_i q' e'
      rw [← of_decide_eq_true hz]; exact e'
    · cases hz
  refine ⟨_, G, ρ, _, ρ1, a.lend, e1, fun v G1 H1 s1 R1 q1 => ?_⟩
  have a1 := Ob.of R1 a.fp a.nm a.rds s1
  obtain ⟨v0, w1, w2⟩ := a1.rep.dat 0 _ hρ
  cases (show v0 = .ref o from w2)
  refine ⟨.ref o, w1, o, C, dx, fv, rfl, a1.hp, hc, hn, ?_, ?_⟩
  · have := congrArg List.length a1.nm
    simp at this; omega
  · exact ⟨F, G1, ρ1, putD fn d fs, putF fn v fv, fl, ρ', fs', ⟨a1.rep.poke a1.gp a1.fp a1.ns, upd_same, a1.gp, a1.fp, a1.ns, putF_nm a1.nm, putF_rds q1 a1.nm a1.rds⟩, q, fun σ2 G2 H2 fv' s2 a2 => k σ2 G2 H2 fv' (s1.trans s2) a2⟩
end
def runI (n : Nat) (B : Ib) (o : Addr) (ds : List D) : Option (List (Str × D)) := match B ((some (.d (.ptr (.ref o))) :: ds.map fun d => some (.d d)) ++ List.replicate (n - (ds.length + 1)) none) [] with
  | some (.nx, _, fs) => some fs
  | _ => none
def spI (K : PySem.W.Frag) (C : Addr) (m : Nat) (g : List D → Option (List (Str × D))) : Sp := fun vs H Q E => ∃ o dx us F G ds fs, vs = .ref o :: us ∧ ds.length = m ∧ H o = some (.ins C dx []) ∧ G o = none ∧ F.hp o = none ∧ Rep K F G H [] [] ∧ RDs K G ds us ∧ g ds = some fs ∧
  ∀ G' H' fv, Same G G' → Ob K F G' H' [] [] o C dx fs fv → Q .non H'
theorem rds_rep {K : PySem.W.Frag} {F : Fm} {G H : Hp} (R : Rep K F G H [] []) {ds : List D} {us : List V} (h : RDs K G ds us) (n : Nat) : Rep K F G H (us.map some ++ List.replicate n none) ((ds.map fun d => some (SV.d d)) ++ List.replicate n none) := by
  have e : (ds.map fun d => some (SV.d d)) = (ds.map SV.d).map some := by rw [List.map_map]; rfl
  rw [e]
  have hget : ∀ {i : Nat} {x : SV}, (ds.map SV.d)[i]? = some x → ∃ d, x = .d d ∧ ds[i]? = some d := fun {i x} q => by
    rw [List.getElem?_map] at q
    obtain ⟨d, h1, h2⟩ := Option.map_eq_some_iff.mp q
    exact ⟨d, h2.symm, h1⟩
  refine ⟨R.gh, R.fh, R.fg, by simp [h.length], fun i x q => ?_, fun i b xs q => ?_, fun i j p b c xs ys _ q => ?_⟩
  · obtain ⟨d, h1, h2⟩ := hget (at_ext.mp q)
    cases h1
    obtain ⟨v, h3, h4⟩ := h.get h2
    exact ⟨v, at_ext.mpr h3, h4⟩
  · obtain ⟨d, h1, _⟩ := hget (at_ext.mp q)
    cases h1
  · obtain ⟨d, h1, _⟩ := hget (at_ext.mp q)
    cases h1
theorem Rep.nil {K : PySem.W.Frag} {F : Fm} {G H : Hp} {σ : Sg} {ρ : Sl} (R : Rep K F G H σ ρ) : Rep K F G H [] [] :=
  ⟨R.gh, R.fh, R.fg, rfl, fun i x q => (by cases q), fun i b x q => (by cases q), fun i j p b c xs ys _ q => (by cases q)⟩
theorem init_ok {P : Program} {w : World} {K : PySem.W.Frag} {mg : Str → Option Value} {base : Heap} {x qual : Str} {st : Stmt} {f C : Addr} {fd : FuncData} {N ps : List Str} {k : Nat} {g : List D → Option (List (Str × D))} {B : Addr → Ib} (hp : 1 ≤ ps.length) (F : Fun K x qual st f fd) (S : FnScope N ps (defScope st))
    (hg : ∀ o ds fs, ds.length + 1 = ps.length → g ds = some fs → runI N.length (B o) o ds = some fs)
    (hb : ∀ (o dx : Addr) (cdv : Value) (A : Around) (outer : List Env) (s : Shared) (H : Hp) (E : XK), Room k (A.deeper (envOfC qual (defScope st) s.heap.objs.size f cdv)) →
      PIb (cxOf CX0 P w K mg base N qual (defScope st) f cdv A outer s H E).nox o C dx (defBody st) (B o)) : FnOk P w K mg base CX0 (k + 1) f fd ps (spI K C (ps.length - 1) g) := by
  have hps : ∀ {ds : List D}, ds.length = ps.length - 1 → 1 ≤ ps.length → ds.length + 1 = ps.length := fun h h1 => by omega
  refine F.ok S (fun vs H Q E h => ?_) (fun cdv A outer s H vs Q E hr h => ?_)
  · obtain ⟨o, dx, us, F, G, ds, fs, rfl, hl, h1, h2, h3, R, hr, e, q⟩ := h
    have := hr.length
    simp; omega
  · obtain ⟨o, dx, us, F, G, ds, fs, rfl, hl, h1, h2, h3, R, hr', e, q⟩ := h
    refine ⟨_, hb o dx cdv A outer s H E hr, ?_⟩
    have er := hg o ds fs (hps hl hp) e
    unfold runI at er
    split at er
    rotate_left
    · cases er
    rename_i ρ' fs' e1
    cases er
    have hr2 : RDs K G (.ptr (.ref o) :: ds) (.ref o :: us) := ⟨_, _, rfl, rfl, hr'⟩
    have R0 := rds_rep R hr2 (N.length - (ds.length + 1))
    have hst : L2.start N (.ref o :: us) = (V.ref o :: us).map some ++ List.replicate (N.length - (ds.length + 1)) none := by
      unfold L2.start
      simp [hr'.length]
    rw [hst]
    refine ⟨F, G, _, [], [], .nx, ρ', fs, ⟨R0, h1, h2, h3, fun i b ys o1 => ?_, rfl, rfl⟩, e1, fun σ' G' H' fv' s' a' => ?_⟩
    · have e : ((.ptr (.ref o) :: ds).map fun d => some (SV.d d)) = ((.ptr (.ref o) :: ds).map SV.d).map some := by rw [List.map_map]; rfl
      rw [e] at o1
      have q := at_ext.mp o1
      rw [List.getElem?_map] at q
      obtain ⟨d, _, h2⟩ := Option.map_eq_some_iff.mp q
      cases h2
    · exact q G' H' fv' s' ⟨a'.rep.nil, a'.hp, a'.gp, a'.fp, fun i b ys q => (by cases q), a'.nm, a'.rds⟩
end M
namespace M
open PySem PySem.Spec PyProof.Rows L2 TL
structure MkOk (P : Program) (w : World) (K : PySem.W.Frag) (mg : Str → Option Value) (base : Heap) (x : Str) (k m : Nat) (g : List D → Option (List (Str × D))) : Prop where
  ex : ∃ (C f : Addr) (fd : FuncData) (ps : List Str), mg x = some (.ref C) ∧ Mk K C f ∧ Cls K C ∧ Binds K fd ps [] ∧ FnOk P w K mg base CX0 k f fd ps (spI K C m g) ∧ ∀ ds fs, g ds = some fs → ∀ n ∈ fs.map (·.1), NoAttr K C n
def bMk (nm : Str) (m : Nat) (g : List D → Option (List (Str × D))) (fs : Ax) : Ex := fun ρ => match fs ρ with
  | none => none
  | some (rs, ρ1) => match dsOf rs with
    | none => none
    | some ds => if ds.length = m then (g ds).map fun r => (.d (.ins nm (r.map (·.1)) (r.map (·.2))), ρ1) else none
section
variable {X : Cx} {a b c e : Expr} {es : List Expr} {fa fb fc : Ex} {fs : Ax} {pos p p1 p2 tpos : Pos} {x y z : Str}
theorem ev_make {k m : Nat} {g : List D → Option (List (Str × D))} {nm : Str} (h : MkOk X.prog X.w X.K X.mg X.base x k m g) (hr : Room (k + 1) X.A) (ha : PAv X (e :: es) fs) (hg : Gl X x := by rfl) (hdb : (x == ("__debug__" : Str)) = false := by decide)
    (he : starEach (e :: es) X.env = (false, eval e X.env) :: starEach es X.env := by rfl) (hpl : (backTo pos (starEach es X.env)).any (·.1) = false := by rfl) : PEv X (.Call (.Name x p) (e :: es) [] pos) (bMk nm m g fs) := by
  obtain ⟨C, f, fd, ps, hm, hM, hC, hb, G0, hn⟩ := h.ex
  refine PE.imp (pe_make hM G0 hr hg hm hb .nil pass0 ha hdb he hpl) fun σ H Q h => ?_
  obtain ⟨F, G, ρ, r, ρ', R, q, k⟩ := h
  unfold bMk at q
  split at q
  · cases q
  rename_i rs ρ1 e1
  split at q
  · cases q
  rename_i ds e2
  split at q
  rotate_left
  · cases q
  rename_i hl
  obtain ⟨fds, ez, eq⟩ := Option.map_eq_some_iff.mp q
  cases eq
  refine ⟨F, G, ρ, rs, _, R, e1, fun vs G1 H1 s1 R1 q1 => fun o dx ho hdx hne => ?_⟩
  rw [List.append_nil]
  have hr1 := ds_of q1 e2
  have go := R1.gNone ho
  have gd := R1.gNone hdx
  have H2o : (upd (upd H1 dx (.own o)) o (.ins C dx [])) o = some (.ins C dx []) := upd_same
  let H2 : Hp := upd (upd H1 dx (.own o)) o (.ins C dx [])
  have old : ∀ b u, H1 b = some u → H2 b = some u := fun b u z => by
    show upd (upd H1 dx (.own o)) o (.ins C dx []) b = some u
    rw [upd_ne (ne_of_none z ho), upd_ne (ne_of_none z hdx)]; exact z
  let F' : Fm := ⟨fun b => if G1 b = none ∧ b ≠ o then H2 b else none, F.par⟩
  have pf : ∀ b u, G1 b = none → b ≠ o → H2 b = some u → F'.hp b = some u := fun b u z1 z2 z3 => by
    show (if G1 b = none ∧ b ≠ o then H2 b else none) = some u
    rw [if_pos ⟨z1, z2⟩]; exact z3
  have fp : ∀ b u, F'.hp b = some u → G1 b = none ∧ b ≠ o ∧ H2 b = some u := fun b u z => by
    have z : (if G1 b = none ∧ b ≠ o then H2 b else none) = some u := z
    split at z
    · rename_i w; exact ⟨w.1, w.2, z⟩
    · cases z
  have R2 : Rep X.K F' G1 H2 [] [] := ⟨fun b u z => old b u (R1.gh b u z), fun b u z => (fp b u z).2.2, fun b u z => (fp b u z).1, rfl, fun i x q => (by cases q), fun i b x q => (by cases q), fun i j p b c xs ys _ q => (by cases q)⟩
  refine ⟨o, dx, vs, F', G1, ds, fds, rfl, hl, H2o, go, ?_, R2, hr1, ez, fun G' H' fv s' ob => ⟨rfl, ?_⟩⟩
  · show (if G1 o = none ∧ o ≠ o then H2 o else none) = none
    rw [if_neg (fun z => z.2 rfl)]
  · have sG := Same.updN (o := .ins C dx fv) ob.gp
    have at1 : ∀ b u, H1 b = some u → G1 b = none → H' b = some u ∧ (upd G' o (.ins C dx fv)) b = none := fun b u z1 z2 => by
      have hb : b ≠ o := ne_of_none z1 ho
      have z := pf b u z2 hb (old b u z1)
      exact ⟨ob.rep.fh b u z, by rw [upd_ne hb]; exact ob.rep.fg b u z⟩
    refine k (.ref o) (upd G' o (.ins C dx fv)) H' ((s1.trans s').trans sG) ⟨fun b u z => ?_, fun b u z => (at1 b u (R1.fh b u z) (R1.fg b u z)).1, fun b u z => (at1 b u (R1.fh b u z) (R1.fg b u z)).2, R1.len, fun i x z => ?_, fun i b xs z => ?_, R1.sep⟩ ?_
    · unfold upd at z
      split at z <;> rename_i hb
      · cases z; rw [hb]; exact ob.hp
      · exact ob.rep.gh b u z
    · obtain ⟨v, w1, w2⟩ := R1.dat i x z
      exact ⟨v, w1, RD.mono (s'.trans sG) _ _ w2⟩
    · obtain ⟨p, us, w1, w2, w3, w4, w5, w6⟩ := R1.own i b xs z
      obtain ⟨y1, y2⟩ := at1 p _ w2 w3
      exact ⟨p, us, w1, y1, y2, w4, RDs.mono (s'.trans sG) _ _ w5, w6⟩
    · exact ⟨o, C, dx, fv, rfl, upd_same, hC, hn ds fds ez, ob.nm, RDs.mono sG _ _ ob.rds⟩
def PKv (X : Cx) (kws : List Keyword) (f : Ax) : Prop := PK X kws (tAr X.K f)
theorem kv_nil : PKv X [] aNil := ⟨fun pos pins s σ H Q I h => by
  obtain ⟨F, G, ρ, rs, ρ', R, e, k⟩ := h
  cases e
  exact pk_nil.run pos pins s σ H Q I (k [] G H (Same.refl G) R rfl)⟩
theorem PK.imp {X : Cx} {e : List Keyword} {t t' : TA} (h : PK X e t) (i : ∀ σ H Q, t' σ H Q → t σ H Q) : PK X e t' := ⟨fun pos pins s σ H Q I q => h.run pos pins s σ H Q I (i σ H Q q)⟩
theorem kv_cons {kws : List Keyword} {n : Option Str} {kpos : Pos} {f : Ax} (he : PEv X e fa) (hs : PKv X kws f) : PKv X (⟨n, e, kpos⟩ :: kws) (aCons fa f) := PK.imp (pk_cons he hs) fun σ H Q h => by
  obtain ⟨F, G, ρ, rs, ρ', R, q, k⟩ := h
  unfold aCons at q
  split at q
  · cases q
  rename_i ra ρ1 e1
  split at q
  · cases q
  rename_i rb ρ2 e2
  cases q
  refine ⟨F, G, ρ, ra, ρ1, R, e1, fun x G1 H1 s1 R1 q1 => ?_⟩
  obtain ⟨G1', t1, R1', n1⟩ := nrm_step R1 q1
  refine ⟨F, G1', ρ1, rb, _, R1', e2, fun ys G2 H2 s2 R2 q2 => ?_⟩
  exact k _ G2 H2 ((s1.trans t1).trans s2) R2 ⟨x, ys, rfl, n1.mono s2, q2⟩
structure DefKw (P : Program) (w : World) (K : PySem.W.Frag) (mg : Str → Option Value) (base : Heap) (x : Str) (k : Nat) (ps : List Str) (n : Nat) (F : Fx) : Prop where
  ex : ∃ (f : Addr) (fd : FuncData), mg x = some (.ref f) ∧ PySem.W.keepIn K (.ref f) = true ∧ KBn K fd ps n (ps.drop n) (fun us ws => us ++ ws) (fun vs zs => vs ++ zs) ∧ FnOk P w K mg base CX0 k f fd ps (spV K F)
theorem def_kw {P : Program} {w : World} {K : PySem.W.Frag} {mg : Str → Option Value} {base : Heap} {x : Str} {st : Stmt} {ps : List Str} {k n : Nat} {F : Fx} (T : DF K mg x st) (h : ∀ (f : Addr) (fd : FuncData), Fun K x x st f fd → FnOk P w K mg base CX0 k f fd ps (spV K F))
    (hb : ∀ (kV doc pm : Value) (an : Option Addr) (cdv ct : Value) (us ws : List Value), us.length = n → ws.length = (ps.drop n).length →
      bindArgs (PySem.W.fnOf x x (defArgs st) (defBody st) (defScope st) .none kV doc pm an cdv ct) ⟨us, (ps.drop n).zip ws⟩ = pure (ps.zip (us ++ ws))) : DefKw P w K mg base x k ps n F := by
  obtain ⟨f, fd, hm, G⟩ := T.ex
  refine ⟨f, fd, hm, G.kp, ⟨fun s us ws _ l1 l2 => ?_, fun r1 r2 => r1.append r2⟩, h f fd G⟩
  obtain ⟨oc, od, kV, doc, pm, an, cdv, ct, osl, rfl, lk, hcd⟩ := G.ex
  exact .of_eq (hb kV doc pm an cdv ct us ws l1 l2)
theorem ev_callK0 {kws : List Keyword} {k : Nat} {ps : List Str} {F : Fx} (h : DefKw X.prog X.w X.K X.mg X.base x k ps 0 F) (hr : Room k X.A) (ha : PKv X kws fs) (hg : Gl X x := by rfl)
    (hall : (backToKw pos (keywordEach kws X.env)).all (·.1.isSome) = true := by rfl) (hks : (backToKw pos (keywordEach kws X.env)).filterMap (·.1) = ps := by rfl)
    (hdb : (x == ("__debug__" : Str)) = false := by decide)
    (hpl : ((backTo pos (starEach [] X.env)).any (·.1) || (backToKw pos (keywordEach kws X.env)).any (·.1.isNone)) = false := by rfl) : PEv X (.Call (.Name x p) [] kws pos) (bCall F fs) := by
  obtain ⟨f, fd, hm, hk, hb, G0⟩ := h.ex
  refine ⟨fun pins s σ H Q I h => ?_⟩
  have h := read_call (E := E0) h
  refine wpAny_Call_Name_kw (ld_glob I hg hm ?_ hdb)
  refine PySem.W.callWith_KW0 (h₀ := X.base) I.ok.mod.kin hk hall (thn (ha.run pos pins s σ H _ I h) fun ws s2 ⟨zs, H2, I2, rz, q2⟩ => ⟨I2.kIn, ?_⟩) hpl
  rw [hks]
  have q2 : spV X.K F (zs ++ []) H2 Q E0 := q2
  rw [List.append_nil] at q2
  have hl : zs.length = ps.length := G0.len _ _ _ _ q2
  exact run_fnN (ps := ps) (ks := ps) (gV := fun vs zs => vs ++ zs) (us := []) (vs := []) G0 hr hb pass0 I2 .nil rz rfl hl q2
end
end M
namespace M
open PySem PySem.Spec PyProof.Rows L2 TL
section
variable {P : Program} {w : World} {K : PySem.W.Frag} {mg : Str → Option Value} {base : Heap}
def F_none : Fx := fun _ => none
theorem fn_none {x qual : Str} {st : Stmt} {f : Addr} {fd : FuncData} {N ps : List Str} {k : Nat} (F : Fun K x qual st f fd) (S : FnScope N ps (defScope st)) : FnOk P w K mg base CX0 (k + 1) f fd ps (spV K F_none) :=
  F.ok S (fun vs H Q E h => by
    obtain ⟨F, G, args, r, as, R, ht, e, q⟩ := h
    cases e) (fun cdv A outer s H vs Q E hr h => by
    obtain ⟨F, G, args, r, as, R, ht, e, q⟩ := h
    cases e)
noncomputable def gI (n m : Nat) (B : Addr → Ib) (ds : List D) : Option (List (Str × D)) :=
  open Classical in if ds.length = m ∧ ∀ o, runI n (B o) o ds = runI n (B 0) 0 ds then runI n (B 0) 0 ds else none
theorem gI_run {n m : Nat} {B : Addr → Ib} {ds : List D} {fs : List (Str × D)} (o : Addr) (h : gI n m B ds = some fs) : runI n (B o) o ds = some fs := by
  unfold gI at h
  split at h
  · rename_i z; rw [z.2]; exact h
  · cases h
theorem gI_of {n m : Nat} {B : Addr → Ib} {ds : List D} {fs : List (Str × D)} (hl : ds.length = m) (h : ∀ o, runI n (B o) o ds = some fs) : gI n m B ds = some fs := by
  unfold gI
  rw [if_pos ⟨hl, fun o => by rw [h, h]⟩, h]
def inNames (ns : List Str) (fs : List (Str × D)) : Prop := ∀ n ∈ fs.map (·.1), n ∈ ns
structure MkF (K : PySem.W.Frag) (mg : Str → Option Value) (x qual : Str) (st : Stmt) (ns : List Str) : Prop where
  ex : ∃ (C f : Addr) (fd : FuncData), mg x = some (.ref C) ∧ Mk K C f ∧ Cls K C ∧ Fun K "__init__" qual st f fd ∧ ∀ n ∈ ns, NoAttr K C n
def gIn (ns : List Str) (g : List D → Option (List (Str × D))) : List D → Option (List (Str × D)) := fun ds => match g ds with
  | some fs => if (fs.map (·.1)).all (fun n => ns.contains n) = true then some fs else none
  | none => none
theorem gIn_run {ns : List Str} {g : List D → Option (List (Str × D))} {ds : List D} {fs : List (Str × D)} (h : gIn ns g ds = some fs) : g ds = some fs ∧ ∀ n ∈ fs.map (·.1), n ∈ ns := by
  unfold gIn at h
  split at h
  · rename_i fs' e
    split at h
    · rename_i z
      cases h
      refine ⟨e, fun n hn => ?_⟩
      rw [List.all_eq_true] at z
      exact List.contains_iff_mem.mp (z n hn)
    · cases h
  · cases h
theorem mk_of {x qual : Str} {st : Stmt} {ns ps : List Str} {k : Nat} {g : List D → Option (List (Str × D))} (T : MkF K mg x qual st ns)
    (h : ∀ (C f : Addr) (fd : FuncData), Cls K C → (∀ n ∈ ns, NoAttr K C n) → Fun K "__init__" qual st f fd → FnOk P w K mg base CX0 k f fd ps (spI K C (ps.length - 1) (gIn ns g)))
    (hb : ∀ (kV doc pm : Value) (an : Option Addr) (cdv ct : Value) (us : List Value), us.length = ps.length →
      bindArgs (PySem.W.fnOf "__init__" qual (defArgs st) (defBody st) (defScope st) .none kV doc pm an cdv ct) ⟨us, []⟩ = pure (ps.zip us)) : MkOk P w K mg base x k (ps.length - 1) (gIn ns g) := by
  obtain ⟨C, f, fd, hm, hM, hC, F, hn⟩ := T.ex
  exact ⟨C, f, fd, ps, hm, hM, hC, F.binds hb, h C f fd hC hn F, fun ds fs e n z => hn n ((gIn_run e).2 n z)⟩
theorem defD_of {x : Str} {st : Stmt} {ps : List Str} {k n : Nat} {dvs : List V} {F : Fx} (T : DFD K mg x st dvs) (h : ∀ (f : Addr) (fd : FuncData), FunD K x x (defArgs st) (defBody st) (defScope st) dvs [] f fd → FnOk P w K mg base CX0 k f fd ps (spV K F)) (hd : dvs ≠ []) (hn : n + dvs.length = ps.length)
    (hb : ∀ (j : Nat), j ≤ dvs.length → ∀ (T : Addr) (kV doc pm : Value) (an : Option Addr) (cdv ct : Value) (us its : List Value), us.length = n + j → its.length = dvs.length →
      ∃ k, bindArgs (PySem.W.fnOf x x (defArgs st) (defBody st) (defScope st) (.ref T) kV doc pm an cdv ct) ⟨us, []⟩ = seqItems? (.ref T) >>= k ∧ k (some its.toArray) = pure (ps.zip (us ++ its.drop j))) : DefD P w K mg base x k ps dvs F := by
  obtain ⟨f, fd, hm, G⟩ := T.ex
  exact ⟨f, fd, hm, G.kp, fun j hj => G.binds1 (n + j) j hd (by omega) (hb j hj), h f fd G⟩
end
end M
namespace M
open PySem PySem.Spec PyProof.Rows L2 TL
theorem pe_cls {X : Cx} {x : Str} {pos : Pos} {T : String} (hg : Gl X x) (hm : X.mg x = none) (hv : bootBuiltins x = some (.type T)) (hn : x ≠ "__name__" := by decide) (hd : (x == ("__debug__" : Str)) = false := by decide) : PE X (.Name x pos) (tC (.ty T)) :=
  pe_bltn hg hm hv (show RelV (.ty T) (.type T) from rfl) hn hd
end M
namespace M
open PySem PySem.Spec PyProof.Rows L2 TL
section
variable {K : PySem.W.Frag} {h : Heap} {mg : Str → Option Value}
theorem free_of (X : K.In h) (G : h.Ns mainGlobals mg) {x : Str} (a : PySem.W.nsIn K mainGlobals x = some none) : mg x = none := PySem.W.mg_none_of X G a
theorem gint_of (X : K.In h) (G : h.Ns mainGlobals mg) {x : Str} {i j : Int} {t : Tok} (a : PySem.W.nsIn K mainGlobals x = some (some (.int j t))) (e : j = i) : GInt mg x i := ⟨t, e ▸ PySem.W.mg_of X G a⟩
theorem gstr_of (X : K.In h) (G : h.Ns mainGlobals mg) {x : Str} {s : Str} {l : List Nat} {t : Tok} (a : PySem.W.nsIn K mainGlobals x = some (some (.str s t))) (e : s = ⟨l.toArray⟩) : GStr mg x l := ⟨t, e ▸ PySem.W.mg_of X G a⟩
theorem df_of (X : K.In h) (G : h.Ns mainGlobals mg) {x : Str} {st : Stmt} {f : Addr} {od an : Option Addr} {sl : Array (Option Value)} {oc kV dc pm cd ct : Value} (a : PySem.W.nsIn K mainGlobals x = some (some (.ref f)))
    (l : K.lookup f = some ⟨oc, od, .func (PySem.W.fnOf x x (defArgs st) (defBody st) (defScope st) .none kV dc pm an cd ct), sl⟩) (c : PySem.W.codeIn K cd x = true) (k : PySem.W.keepIn K (.ref f) = true) : DF K mg x st :=
  ⟨f, _, PySem.W.mg_of X G a, fun_mk l c k⟩
theorem dfd_of (X : K.In h) (G : h.Ns mainGlobals mg) {x : Str} {st : Stmt} {f T : Addr} {od an : Option Addr} {sl : Array (Option Value)} {oc kV dc pm cd ct : Value} {o : Obj} {its : List Value} {n : Nat} {dvs : List V} (a : PySem.W.nsIn K mainGlobals x = some (some (.ref f)))
    (l : K.lookup f = some ⟨oc, od, .func (PySem.W.fnOf x x (defArgs st) (defBody st) (defScope st) (.ref T) kV dc pm an cd ct), sl⟩) (c : PySem.W.codeIn K cd x = true) (k : PySem.W.keepIn K (.ref f) = true)
    (l2 : K.lookup T = some o) (e : o.data = .seq its.toArray n) (hd : dvs ≠ []) (hv : Vals dvs its) : DFD K mg x st dvs :=
  ⟨f, _, PySem.W.mg_of X G a, ⟨oc, od, .ref T, kV, dc, pm, an, cd, ct, sl, rfl, l, c, .inr ⟨hd, T, _, its, n, rfl, l2, e, hv⟩, .inl rfl⟩, k⟩
theorem mkf_of (X : K.In h) (G : h.Ns mainGlobals mg) {x qual : Str} {st : Stmt} {C f : Addr} {od an : Option Addr} {sl : Array (Option Value)} {oc kV dc pm cd ct : Value} {ns : List Str} (a : PySem.W.nsIn K mainGlobals x = some (some (.ref C)))
    (a1 : PySem.W.findIn K (.ref C) "__init__" = some (some (.ref f))) (i1 : PySem.W.isFn K (.ref f) = true) (l : K.lookup f = some ⟨oc, od, .func (PySem.W.fnOf "__init__" qual (defArgs st) (defBody st) (defScope st) .none kV dc pm an cd ct), sl⟩) (c : PySem.W.codeIn K cd qual = true) (k : PySem.W.keepIn K (.ref f) = true)
    (pg : PySem.W.plainGet K C Str.empty = true) (hd : PySem.W.hasDictIn K C = true) (po : PySem.W.plainOver K C = true) (sa : PySem.W.findIn K (.ref C) "__setattr__" = some (some (.builtin "object.__setattr__"))) (mk : PySem.W.makesIn K C = true) (kc : PySem.W.keepIn K (.ref C) = true)
    (hn : ∀ n ∈ ns, PySem.W.findIn K (.ref C) n = some none) : MkF K mg x qual st ns :=
  ⟨C, f, _, PySem.W.mg_of X G a, ⟨mk, a1, i1, kc⟩, ⟨pg, hd, po, sa⟩, fun_mk l c k, hn⟩
end
theorem law_fd {l : PySem.W.OpenLaw} {w : World} {K : PySem.W.Frag} {h : Heap} {mg : Str → Option Value} {fa f : Addr} {k : Nat} {st : Stmt} {FL : Fx} (X : K.In h) (G : h.Ns mainGlobals mg) (hfa : mg "law" = some (.ref fa)) {od an : Option Addr} {sl : Array (Option Value)} {oc kV dc pm cd ct : Value}
    (a : PySem.W.nsIn K mainGlobals "law" = some (some (.ref f)))
    (l1 : K.lookup f = some ⟨oc, od, .func (PySem.W.fnOf "law" "law" (defArgs st) (defBody st) (defScope st) .none kV dc pm an cd ct), sl⟩) (c : PySem.W.codeIn K cd "law" = true) (kp : PySem.W.keepIn K (.ref f) = true)
    (hb : ∀ (s : Shared) (v : Value), BindsTo s (PySem.W.fnOf "law" "law" (defArgs st) (defBody st) (defScope st) .none kV dc pm an cd ct) ⟨[v], []⟩ [("script", v)])
    (H : ∀ (base : Heap) (f : Addr) (fd : FuncData), Fun K "law" "law" st f fd → FnOk l.prog w K mg base CX0 k f fd ["script"] (spV K FL)) :
    ∃ fd : FuncData, (∀ (s : Shared) (v : Value), BindsTo s fd ⟨[v], []⟩ [("script", v)]) ∧ ∀ base : Heap, K.In base → base.Ns mainGlobals mg → FnOk l.prog w K mg base CX0 k fa fd ["script"] (spV K FL) := by
  have e := hfa.symm.trans (PySem.W.mg_of X G a)
  cases e
  exact ⟨_, hb, fun base _ _ => H base _ _ (fun_mk l1 c kp)⟩
theorem rds_ints {K : PySem.W.Frag} {G : Hp} : ∀ ns : List Int, RDs K G (ns.map D.int) (ns.map V.int)
  | [] => rfl
  | n :: ns => ⟨_, _, rfl, rfl, rds_ints ns⟩
theorem law_walk {l : PySem.W.OpenLaw} {n k : Nat} {q : Program} {loose : List Str} {XP : (Str → Option Value) → Heap → Prop} {YP : World → Heap → Prop} {d : DefRec} {K : Params → PySem.W.Frag} (FL : Fx) (hn : l.most = some n) (hn2 : n ≤ sizeLine) (hdf : d.params.defaults = []) (hr : Room k callerA)
    (hY : ∀ (w : World) (h : Heap), YP w h → (K w.params).In h)
    (F : ∀ (w : World) (mg : Str → Option Value) (fa : Addr) (h : Heap), (K w.params).In h → h.Ns mainGlobals mg → mg d.name = some (.ref fa) →
      ∃ fd : FuncData, (∀ (s : Shared) (u : Value), BindsTo s fd ⟨[u], []⟩ [("script", u)]) ∧ ∀ base : Heap, (K w.params).In base → base.Ns mainGlobals mg → FnOk l.prog w (K w.params) mg base CX0 k fa fd ["script"] (spV (K w.params) FL))
    (hlaw : ∀ ns : List Int, ns.length ≤ n → ∃ as, FL [.d (.scr (ns.map .int))] = some (.d (.bl true), as)) :
    PySem.W.WalkO q loose XP YP l.row.toRowW d [] (fun f vs => PySem.call f vs) := by
  refine L2.walk_of (n := n) (k := k) (x := "script") (CX := fun _ => CX0) (sp := fun w => spV (K w.params) FL) hn hn2 hdf hr hY F (fun w H a ns hl _ hS => ?_) fun _ _ _ _ _ z => z
  obtain ⟨as, e⟩ := hlaw ns hl
  refine ⟨⟨fun _ => none, fun _ => none⟩, H, [.d (.scr (ns.map .int))], _, as, ⟨fun b o z => z, fun b o z => (by cases z), fun b o z => (by cases z), rfl, fun i x z => ?_, fun i b xs z => ?_, fun i j p b c xs ys hij z1 z2 z3 z4 => ?_⟩, fun j b xs z => ?_, e, fun v G' H' _ _ r => r⟩
  · have z := at_map.mp z
    match i, z with
    | 0, z => cases z; exact ⟨.ref a, rfl, a, _, rfl, hS, rds_ints ns⟩
    | i + 1, z => simp at z
  · have z := at_map.mp z
    match i, z with
    | 0, z => cases z
    | i + 1, z => simp at z
  · have z := at_map.mp z1
    match i, z with
    | 0, z => cases z
    | i + 1, z => simp at z
  · match j, z with
    | 0, z => cases z
    | j + 1, z => simp at z
end M
namespace M
open PySem PySem.Spec PyProof.Rows L2 TL
inductive Dep {α : Sort _} (a : α) : Type
  | mk
def okQ {α β : Type} (o : Option (α × β)) (Q : α → β → Prop) (_ : Dep Q := .mk) : Prop := match o with
  | some (r, s) => Q r s
  | none => False
section
variable {α β : Type} {Q Q' : α → β → Prop} {o : Option (α × β)}
@[simp ↓] theorem okQ_some {r : α} {s : β} : okQ (some (r, s)) Q ↔ Q r s := Iff.rfl
@[simp] theorem okQ_none : okQ (none : Option (α × β)) Q ↔ False := Iff.rfl
theorem okQ_iff : okQ o Q ↔ ∃ r s, o = some (r, s) ∧ Q r s := by
  cases o with
  | none => simp
  | some p => exact ⟨fun h => ⟨_, _, rfl, h⟩, fun ⟨r, s, e, h⟩ => by cases e; exact h⟩
theorem okQ.imp (h : okQ o Q) (i : ∀ r s, Q r s → Q' r s) : okQ o Q' := by
  cases o with
  | none => exact h
  | some p => exact i _ _ h
def oq {α : Type} (o : Option α) (P : α → Prop) (_ : Dep P := .mk) : Prop := match o with
  | some x => P x
  | none => False
@[simp ↓] theorem oq_some {α : Type} {x : α} {P : α → Prop} : oq (some x) P ↔ P x := Iff.rfl
@[simp] theorem oq_none {α : Type} {P : α → Prop} : oq (none : Option α) P ↔ False := Iff.rfl
@[simp] theorem oq_map {α β : Type} {o : Option α} {f : α → β} {P : β → Prop} : oq (o.map f) P ↔ oq o fun x => P (f x) := by cases o <;> simp
@[simp] theorem oq_ite {α : Type} {c : Prop} [Decidable c] {x : α} {P : α → Prop} : oq (if c then some x else none) P ↔ c ∧ P x := by by_cases h : c <;> simp [h]
theorem oq_iff {α : Type} {o : Option α} {P : α → Prop} : oq o P ↔ ∃ x, o = some x ∧ P x := by cases o <;> simp
def isD' (r : RV) (P : D → Prop) (_ : Dep P := .mk) : Prop := match r with | .d x => P x | _ => False
def isBl (r : RV) (P : Bool → Prop) (_ : Dep P := .mk) : Prop := match r with | .d (.bl b) => P b | _ => False
def isInt (r : RV) (P : Int → Prop) (_ : Dep P := .mk) : Prop := match r with | .d (.int b) => P b | _ => False
def isStr (r : RV) (P : List Nat → Prop) (_ : Dep P := .mk) : Prop := match r with | .d (.str b) => P b | _ => False
def isLst (r : RV) (P : List D → Prop) (_ : Dep P := .mk) : Prop := match r with | .d (.lst b) => P b | _ => False
def isTup (r : RV) (P : List D → Prop) (_ : Dep P := .mk) : Prop := match r with | .d (.tup b) => P b | _ => False
def isIns (r : RV) (P : Str → List Str → List D → Prop) (_ : Dep P := .mk) : Prop := match r with | .d (.ins a b c) => P a b c | _ => False
def isOwn (r : Option (Option SV)) (P : Bool → List D → Prop) (_ : Dep P := .mk) : Prop := match r with | some (some (.own b xs)) => P b xs | _ => False
@[simp ↓] theorem isD'_d {x : D} {P : D → Prop} : isD' (.d x) P ↔ P x := Iff.rfl
@[simp ↓] theorem isD'_own {x : List D} {P : D → Prop} : isD' (.own x) P ↔ False := Iff.rfl
@[simp ↓] theorem isD'_bor {x : Nat} {P : D → Prop} : isD' (.bor x) P ↔ False := Iff.rfl
@[simp ↓] theorem isBl_bl {x : Bool} {P : Bool → Prop} : isBl (.d (.bl x)) P ↔ P x := Iff.rfl
@[simp ↓] theorem isInt_int {x : Int} {P : Int → Prop} : isInt (.d (.int x)) P ↔ P x := Iff.rfl
@[simp ↓] theorem isStr_str {x : List Nat} {P : List Nat → Prop} : isStr (.d (.str x)) P ↔ P x := Iff.rfl
@[simp ↓] theorem isLst_lst {x : List D} {P : List D → Prop} : isLst (.d (.lst x)) P ↔ P x := Iff.rfl
@[simp ↓] theorem isTup_tup {x : List D} {P : List D → Prop} : isTup (.d (.tup x)) P ↔ P x := Iff.rfl
@[simp ↓] theorem isIns_ins {a : Str} {b : List Str} {c : List D} {P : Str → List Str → List D → Prop} : isIns (.d (.ins a b c)) P ↔ P a b c := Iff.rfl
@[simp ↓] theorem isOwn_own {b : Bool} {xs : List D} {P : Bool → List D → Prop} : isOwn (some (some (.own b xs))) P ↔ P b xs := Iff.rfl
theorem okQ.ex (h : okQ o Q) : ∃ r s, o = some (r, s) ∧ Q r s := okQ_iff.mp h
end
def wE (f : Ex) (ρ : Sl) (Q : RV → Sl → Prop) (_ : Dep Q := .mk) : Prop := okQ (f ρ) Q
def wT (f : Tx) (ρ : Sl) (Q : Bool → Sl → Prop) (_ : Dep Q := .mk) : Prop := okQ (f ρ) Q
def wA (f : Ax) (ρ : Sl) (Q : List RV → Sl → Prop) (_ : Dep Q := .mk) : Prop := okQ (f ρ) Q
def wS (f : Sx) (ρ : Sl) (Q : Fl → Sl → Prop) (_ : Dep Q := .mk) : Prop := okQ (f ρ) Q
def wI (f : Ix) (ρ : Sl) (Q : List D → Sl → Prop) (_ : Dep Q := .mk) : Prop := okQ (f ρ) Q
def wO (f : Ox) (ρ : Sl) (Q : Option Int → Sl → Prop) (_ : Dep Q := .mk) : Prop := okQ (f ρ) Q
@[irreducible] def wF (F : Fx) (as : List SV) (Q : RV → List SV → Prop) (_ : Dep Q := .mk) : Prop := okQ (F as) Q
@[irreducible] def wR (bind : Bx) (body : Sx) (xs : List D) (ρ : Sl) (Q : Fl → Sl → Prop) (_ : Dep Q := .mk) : Prop := okQ (forGo bind body xs ρ) Q
@[irreducible] def wW (c : Tx) (body : Sx) (n : Nat) (ρ : Sl) (Q : Fl → Sl → Prop) (_ : Dep Q := .mk) : Prop := okQ (whileN c body n ρ) Q
@[irreducible] def wC (vs : List Nat) (bind : Bx) (cond : Tx) (elt : Ex) (xs acc : List D) (ρ : Sl) (Q : List D → Sl → Prop) (_ : Dep Q := .mk) : Prop := okQ (compGo vs bind cond elt xs acc ρ) Q
@[irreducible] def wC2 (vs vs1 : List Nat) (bind : Bx) (cond : Tx) (it1 : Ix) (bind1 : Bx) (cond1 : Tx) (elt : Ex) (xs acc : List D) (ρ : Sl) (Q : List D → Sl → Prop) (_ : Dep Q := .mk) : Prop := okQ (comp2Go vs vs1 bind cond it1 bind1 cond1 elt xs acc ρ) Q
theorem wR_def {bind : Bx} {body : Sx} {xs : List D} {ρ : Sl} {Q : Fl → Sl → Prop} : wR bind body xs ρ Q ↔ okQ (forGo bind body xs ρ) Q := by
  unfold wR
  exact Iff.rfl
theorem wW_def {c : Tx} {body : Sx} {n : Nat} {ρ : Sl} {Q : Fl → Sl → Prop} : wW c body n ρ Q ↔ okQ (whileN c body n ρ) Q := by
  unfold wW
  exact Iff.rfl
theorem wC_def {vs : List Nat} {bind : Bx} {cond : Tx} {elt : Ex} {xs acc : List D} {ρ : Sl} {Q : List D → Sl → Prop} : wC vs bind cond elt xs acc ρ Q ↔ okQ (compGo vs bind cond elt xs acc ρ) Q := by
  unfold wC
  exact Iff.rfl
theorem wC2_def {vs vs1 : List Nat} {bind : Bx} {cond : Tx} {it1 : Ix} {bind1 : Bx} {cond1 : Tx} {elt : Ex} {xs acc : List D} {ρ : Sl} {Q : List D → Sl → Prop} : wC2 vs vs1 bind cond it1 bind1 cond1 elt xs acc ρ Q ↔ okQ (comp2Go vs vs1 bind cond it1 bind1 cond1 elt xs acc ρ) Q := by
  unfold wC2
  exact Iff.rfl
theorem wE.imp {f : Ex} {ρ : Sl} {Q Q' : RV → Sl → Prop} (h : wE f ρ Q) (i : ∀ r ρ', Q r ρ' → Q' r ρ') : wE f ρ Q' := okQ.imp h i
theorem wS.imp {f : Sx} {ρ : Sl} {Q Q' : Fl → Sl → Prop} (h : wS f ρ Q) (i : ∀ r ρ', Q r ρ' → Q' r ρ') : wS f ρ Q' := okQ.imp h i
theorem wF_def {F : Fx} {as : List SV} {Q : RV → List SV → Prop} : wF F as Q ↔ okQ (F as) Q := by
  unfold wF
  exact Iff.rfl
theorem wF_ex {F : Fx} {as : List SV} {Q : RV → List SV → Prop} (h : wF F as Q) : ∃ r as', F as = some (r, as') ∧ Q r as' := okQ.ex (wF_def.mp h)
theorem wF_eq {F : Fx} {as as' : List SV} {r : RV} {Q : RV → List SV → Prop} (e : F as = some (r, as')) (h : Q r as') : wF F as Q := wF_def.mpr (by rw [e]; exact h)
theorem wF.imp {f : Fx} {ρ : List SV} {Q Q' : RV → List SV → Prop} (h : wF f ρ Q) (i : ∀ r ρ', Q r ρ' → Q' r ρ') : wF f ρ Q' := by
  unfold wF at h ⊢
  exact okQ.imp h i
section
variable {ρ : Sl} {fa fb fc fe fk : Ex} {c d : Tx} {fs : Ax} {f g : Sx} {i j n : Nat} {QE : RV → Sl → Prop} {QT : Bool → Sl → Prop} {QA : List RV → Sl → Prop} {QS : Fl → Sl → Prop} {QI : List D → Sl → Prop} {QO : Option Int → Sl → Prop}
@[simp ↓] theorem wE_C {d : D} : wE (bC d) ρ QE ↔ QE (.d d) ρ := Iff.rfl
@[simp ↓] theorem wE_V : wE (bV i) ρ QE ↔ (match ρ[i]? with
  | some (some (.d x)) => QE (.d x) ρ
  | some (some (.own _ _)) => QE (.bor i) ρ
  | _ => False) := by
  unfold wE bV
  split <;> simp_all
@[simp ↓] theorem wE_Op {h : D → D → Option RV} : wE (bOp h fa fb) ρ QE ↔ wE fa ρ fun ra ρ1 => wE fb ρ1 fun rb ρ2 => oq (pk ρ2 ra.nrm) fun x => oq (pk ρ2 rb.nrm) fun y => oq (h x y) fun z => QE z ρ2 := by
  unfold wE bOp
  rcases fa ρ with _ | ⟨ra, ρ1⟩
  · simp
  rcases e2 : fb ρ1 with _ | ⟨rb, ρ2⟩
  · simp [e2]
  cases e3 : pk ρ2 ra.nrm <;> cases e4 : pk ρ2 rb.nrm <;> simp [e2, e3, e4]
  rename_i x y
  cases h x y <;> simp
@[simp ↓] theorem wE_Un {h : D → Option RV} : wE (bUn h fa) ρ QE ↔ wE fa ρ fun ra ρ1 => oq (pk ρ1 ra.nrm) fun x => oq (h x) fun z => QE z ρ1 := by
  unfold wE bUn
  rcases fa ρ with _ | ⟨ra, ρ1⟩
  · simp
  cases e3 : pk ρ1 ra.nrm <;> simp [e3]
  rename_i x
  cases h x <;> simp
@[simp ↓] theorem wA_nil : wA aNil ρ QA ↔ QA [] ρ := Iff.rfl
@[simp ↓] theorem wA_cons : wA (aCons fa fs) ρ QA ↔ wE fa ρ fun r ρ1 => wA fs ρ1 fun rs ρ2 => QA (r.nrm :: rs) ρ2 := by
  unfold wA wE aCons
  rcases fa ρ with _ | ⟨ra, ρ1⟩
  · simp
  rcases e2 : fs ρ1 with _ | ⟨rb, ρ2⟩ <;> simp [e2]
@[simp ↓] theorem wA_app {ds : List D} : wA (aApp fs ds) ρ QA ↔ wA fs ρ fun rs ρ1 => QA (rs ++ ds.map RV.d) ρ1 := by
  unfold wA aApp
  rcases fs ρ with _ | ⟨ra, ρ1⟩ <;> simp
@[simp ↓] theorem wE_Fn {h : List D → Option RV} : wE (bFn h fs) ρ QE ↔ wA fs ρ fun rs ρ1 => oq (pks ρ1 rs) fun ds => oq (h ds) fun z => QE z ρ1 := by
  unfold wE wA bFn
  rcases fs ρ with _ | ⟨rs, ρ1⟩
  · simp
  cases e3 : pks ρ1 rs <;> simp [e3]
  rename_i x
  cases h x <;> simp
@[simp ↓] theorem wE_Fz : wE (bFz fa) ρ QE ↔ wE fa ρ fun r ρ1 => okQ (frz r ρ1) fun x ρ2 => QE (.d x) ρ2 := by
  unfold wE bFz
  rcases fa ρ with _ | ⟨r, ρ1⟩
  · simp
  rcases e3 : frz r ρ1 with _ | ⟨x, ρ2⟩ <;> simp [e3]
@[simp] theorem frz_d {x : D} : frz (.d x) ρ = some (x, ρ) := rfl
@[simp] theorem frz_own {xs : List D} : frz (.own xs) ρ = some (.lst xs, ρ) := rfl
@[simp] theorem frz_bor : frz (.bor i) ρ = (match ρ[i]? with
    | some (some (.own false xs)) => some (.lst xs, ρ.set i (some (.d (.lst xs))))
    | _ => none) := rfl
@[simp] theorem pk_d {x : D} : pk ρ (.d x) = some x := rfl
@[simp] theorem pk_bor : pk ρ (.bor i) = (match ρ[i]? with
    | some (some (.own _ xs)) => some (.lst xs)
    | _ => none) := rfl
@[simp] theorem nrm_d {x : D} : RV.nrm (.d x) = .d x := rfl
@[simp] theorem nrm_own {x : List D} : RV.nrm (.own x) = .d (.lst x) := rfl
@[simp] theorem nrm_bor : RV.nrm (.bor i) = .bor i := rfl
@[simp] theorem pks_nil : pks ρ [] = some [] := rfl
@[simp] theorem pks_cons {r : RV} {rs : List RV} : pks ρ (r :: rs) = (match pk ρ r, pks ρ rs with
    | some x, some xs => some (x :: xs)
    | _, _ => none) := rfl
@[simp] theorem dsOf_nil : dsOf [] = some [] := rfl
@[simp] theorem dsOf_cons {x : D} {rs : List RV} : dsOf (.d x :: rs) = (dsOf rs).map fun xs => x :: xs := rfl
@[simp ↓] theorem wE_If : wE (bIf c fa fb) ρ QE ↔ wT c ρ fun b ρ1 => if b = true then wE fa ρ1 QE else wE fb ρ1 QE := by
  unfold wE wT bIf
  rcases c ρ with _ | ⟨b, ρ1⟩
  · simp
  cases b <;> simp
@[simp ↓] theorem wT_T : wT (bT fa) ρ QT ↔ wE fa ρ fun r ρ1 => isBl r fun b => QT b ρ1 := by
  unfold wE wT bT
  rcases fa ρ with _ | ⟨r, ρ1⟩
  · simp
  cases r with
  | d x => cases x <;> simp [isBl, isInt, isStr, isLst, isTup]
  | own x => simp [isBl, isInt, isStr, isLst, isTup]
  | bor x => simp [isBl, isInt, isStr, isLst, isTup]
@[simp ↓] theorem wT_And : wT (bAnd c d) ρ QT ↔ wT c ρ fun b ρ1 => if b = true then wT d ρ1 QT else QT false ρ1 := by
  unfold wT bAnd
  rcases c ρ with _ | ⟨b, ρ1⟩
  · simp
  cases b <;> simp
@[simp ↓] theorem wT_Or : wT (bOr c d) ρ QT ↔ wT c ρ fun b ρ1 => if b = true then QT true ρ1 else wT d ρ1 QT := by
  unfold wT bOr
  rcases c ρ with _ | ⟨b, ρ1⟩
  · simp
  cases b <;> simp
@[simp ↓] theorem wT_Not : wT (bNot c) ρ QT ↔ wT c ρ fun b ρ1 => QT (!b) ρ1 := by
  unfold wT bNot
  rcases c ρ with _ | ⟨b, ρ1⟩ <;> simp
@[simp ↓] theorem wT_Yes : wT bYes ρ QT ↔ QT true ρ := Iff.rfl
@[simp ↓] theorem wE_OfT : wE (bOfT c) ρ QE ↔ wT c ρ fun b ρ1 => QE (.d (.bl b)) ρ1 := by
  unfold wE wT bOfT
  rcases c ρ with _ | ⟨b, ρ1⟩ <;> simp
@[simp ↓] theorem wE_AndV : wE (bAndV fa fb) ρ QE ↔ wE fa ρ fun r ρ1 => isBl r fun b => if b = true then wE fb ρ1 QE else QE (.d (.bl false)) ρ1 := by
  unfold wE bAndV
  rcases fa ρ with _ | ⟨r, ρ1⟩
  · simp
  cases r with
  | d x => cases x <;> simp [isBl]; rename_i b; cases b <;> simp
  | own x => simp [isBl]
  | bor x => simp [isBl]
@[simp ↓] theorem wE_OrV : wE (bOrV fa fb) ρ QE ↔ wE fa ρ fun r ρ1 => isBl r fun b => if b = true then QE (.d (.bl true)) ρ1 else wE fb ρ1 QE := by
  unfold wE bOrV
  rcases fa ρ with _ | ⟨r, ρ1⟩
  · simp
  cases r with
  | d x => cases x <;> simp [isBl]; rename_i b; cases b <;> simp
  | own x => simp [isBl]
  | bor x => simp [isBl]
@[simp ↓] theorem wE_NotV : wE (bNotV fa) ρ QE ↔ wE fa ρ fun r ρ1 => isBl r fun b => QE (.d (.bl (!b))) ρ1 := by
  unfold wE bNotV
  rcases fa ρ with _ | ⟨r, ρ1⟩
  · simp
  cases r with
  | d x => cases x <;> simp [isBl, isInt, isStr, isLst, isTup]
  | own x => simp [isBl, isInt, isStr, isLst, isTup]
  | bor x => simp [isBl, isInt, isStr, isLst, isTup]
@[simp ↓] theorem wS_Nx : wS sNx ρ QS ↔ QS .nx ρ := Iff.rfl
@[simp ↓] theorem wS_Bk : wS sBk ρ QS ↔ QS .bk ρ := Iff.rfl
@[simp ↓] theorem wS_Ct : wS sCt ρ QS ↔ QS .ct ρ := Iff.rfl
@[simp ↓] theorem wS_RetN : wS sRetN ρ QS ↔ QS (.rt (.d .non)) ρ := Iff.rfl
@[simp ↓] theorem wS_Never : wS sNever ρ QS ↔ False := Iff.rfl
def thenS (g : Sx) (Q : Fl → Sl → Prop) : Fl → Sl → Prop := fun fl ρ => match fl with
  | .nx => wS g ρ Q
  | o => Q o ρ
@[simp ↓] theorem thenS_nx : thenS g QS .nx ρ ↔ wS g ρ QS := Iff.rfl
@[simp ↓] theorem thenS_bk : thenS g QS .bk ρ ↔ QS .bk ρ := Iff.rfl
@[simp ↓] theorem thenS_ct : thenS g QS .ct ρ ↔ QS .ct ρ := Iff.rfl
@[simp ↓] theorem thenS_rt {r : RV} : thenS g QS (.rt r) ρ ↔ QS (.rt r) ρ := Iff.rfl
@[simp ↓] theorem wS_Seq : wS (sSeq f g) ρ QS ↔ wS f ρ (thenS g QS) := by
  unfold wS sSeq
  rcases f ρ with _ | ⟨fl, ρ1⟩
  · simp
  cases fl <;> simp [wS]
@[simp ↓] theorem wS_If : wS (sIf c f g) ρ QS ↔ wT c ρ fun b ρ1 => if b = true then wS f ρ1 QS else wS g ρ1 QS := by
  unfold wS wT sIf
  rcases c ρ with _ | ⟨b, ρ1⟩
  · simp
  cases b <;> simp
@[simp ↓] theorem wS_Drop : wS (sDrop fa) ρ QS ↔ wE fa ρ fun _ ρ1 => QS .nx ρ1 := by
  unfold wS wE sDrop
  rcases fa ρ with _ | ⟨r, ρ1⟩ <;> simp
@[simp ↓] theorem wS_Ret : wS (sRet fa) ρ QS ↔ wE fa ρ fun r ρ1 => QS (.rt r) ρ1 := by
  unfold wS wE sRet
  rcases fa ρ with _ | ⟨r, ρ1⟩ <;> simp
@[simp] theorem putR_d {x : D} : putR i (.d x) ρ = some (ρ.set i (some (.d x))) := rfl
@[simp] theorem putR_own {x : List D} : putR i (.own x) ρ = some (ρ.set i (some (.own false x))) := rfl
@[simp ↓] theorem wS_Set : wS (sSet i fa) ρ QS ↔ wE fa ρ fun r ρ1 => oq (putR i r ρ1) fun ρ2 => QS .nx ρ2 := by
  unfold wS wE sSet
  rcases fa ρ with _ | ⟨r, ρ1⟩
  · simp
  cases e : putR i r ρ1 <;> simp [e]
def nobor : RV → Prop
  | .bor _ => False
  | _ => True
@[simp] theorem nobor_d {x : D} : nobor (.d x) ↔ True := Iff.rfl
@[simp] theorem nobor_own {x : List D} : nobor (.own x) ↔ True := Iff.rfl
@[simp ↓] theorem wA_aoCons : wA (aoCons fa fs) ρ QA ↔ wE fa ρ fun r ρ1 => nobor r ∧ wA fs ρ1 fun rs ρ2 => QA (r :: rs) ρ2 := by
  unfold wA wE aoCons
  rcases fa ρ with _ | ⟨ra, ρ1⟩
  · simp
  cases ra with
  | bor i => simp [nobor]
  | d x => rcases e2 : fs ρ1 with _ | ⟨rb, ρ2⟩ <;> simp [e2]
  | own x => rcases e2 : fs ρ1 with _ | ⟨rb, ρ2⟩ <;> simp [e2]
@[simp] theorem putRs_nil : putRs [] [] ρ = some ρ := rfl
@[simp] theorem putRs_cons {r : RV} {is : List Nat} {rs : List RV} : putRs (i :: is) (r :: rs) ρ = (match putR i r ρ with
    | none => none
    | some ρ1 => putRs is rs ρ1) := rfl
@[simp ↓] theorem wS_ParN {is : List Nat} : wS (sParN is fs) ρ QS ↔ wA fs ρ fun rs ρ1 => oq (putRs is rs ρ1) fun ρ2 => QS .nx ρ2 := by
  unfold wS wA sParN
  rcases fs ρ with _ | ⟨rs, ρ1⟩
  · simp
  cases e : putRs is rs ρ1 <;> simp [e]
@[simp ↓] theorem wS_Bind {bind : Bx} : wS (sBind bind fa) ρ QS ↔ wE (bFz fa) ρ fun r ρ1 => isD' r fun v => oq (bind v ρ1) fun ρ2 => QS .nx ρ2 := by
  unfold wS wE sBind
  rcases bFz fa ρ with _ | ⟨r, ρ1⟩
  · simp
  cases r with
  | d x => simp; cases e : bind x ρ1 <;> simp [e]
  | own x => simp
  | bor x => simp
@[simp ↓] theorem wE_Mu {h : List D → List D → Option (List D × D)} : wE (bMu i h fs) ρ QE ↔ isOwn ρ[i]? fun _ _ => wA fs ρ fun rs ρ1 => isOwn ρ1[i]? fun b xs => oq (dsOf rs) fun ds => okQ (h xs ds) fun ys z => QE (.d z) (ρ1.set i (some (.own b ys))) := by
  unfold wE wA bMu
  split
  · rename_i b ys e
    simp only [e, isOwn_own]
    rcases fs ρ with _ | ⟨rs, ρ1⟩
    · simp
    simp only [okQ_some]
    split
    · rename_i b xs e1
      simp only [e1, isOwn_own]
      cases e2 : dsOf rs with
      | none => simp
      | some ds =>
        rcases e3 : h xs ds with _ | ⟨ys', z⟩ <;> simp [e3]
    · rename_i h1
      simp only [okQ_none, false_iff]
      unfold isOwn
      split
      · rename_i e; exact (h1 _ _ e).elim
      · exact id
  · rename_i h1
    simp only [okQ_none, false_iff]
    unfold isOwn
    split
    · rename_i e; exact (h1 _ _ e).elim
    · exact id
@[simp ↓] theorem wS_Put : wS (sPut i fk fe) ρ QS ↔ wE (bFz fe) ρ fun r ρ1 => isD' r fun x => isOwn ρ1[i]? fun _ _ => wE fk ρ1 fun q ρ2 => isInt q fun k => isOwn ρ2[i]? fun b xs => oq (ixN xs.length k) fun j => QS .nx (ρ2.set i (some (.own b (xs.set j x)))) := by
  unfold wS wE sPut
  rcases bFz fe ρ with _ | ⟨r, ρ1⟩
  · simp
  cases r with
  | own x => simp
  | bor x => simp
  | d x =>
    simp only [okQ_some, isD'_d]
    split
    · rename_i b ys e
      simp only [e, isOwn_own]
      rcases fk ρ1 with _ | ⟨q, ρ2⟩
      · simp
      cases q with
      | own x => simp [isInt]
      | bor x => simp [isInt]
      | d y =>
        cases y with
        | int k =>
          simp only [okQ_some, isInt_int]
          split
          · rename_i b xs e1
            simp only [e1, isOwn_own]
            cases e2 : ixN xs.length k <;> simp
          · rename_i h1
            simp only [okQ_none, false_iff]
            unfold isOwn
            split
            · rename_i e; exact (h1 _ _ e).elim
            · exact id
        | _ => simp [isInt]
    · rename_i h1
      simp only [okQ_none, false_iff]
      unfold isOwn
      split
      · rename_i e; exact (h1 _ _ e).elim
      · exact id
@[simp ↓] theorem wO_none : wO oNone ρ QO ↔ QO none ρ := Iff.rfl
@[simp ↓] theorem wO_some : wO (oSome fa) ρ QO ↔ wE fa ρ fun r ρ1 => isInt r fun i => QO (some i) ρ1 := by
  unfold wO wE oSome
  rcases fa ρ with _ | ⟨r, ρ1⟩
  · simp
  cases r with
  | d x => cases x <;> simp [isBl, isInt, isStr, isLst, isTup]
  | own x => simp [isBl, isInt, isStr, isLst, isTup]
  | bor x => simp [isBl, isInt, isStr, isLst, isTup]
@[simp ↓] theorem wE_Sl {lo hi : Ox} : wE (bSl fa lo hi) ρ QE ↔ wE fa ρ fun ra ρ1 => wO lo ρ1 fun l ρ2 => wO hi ρ2 fun h ρ3 => oq (pk ρ3 ra.nrm) fun x => oq (slD x l h) fun z => QE z ρ3 := by
  unfold wE wO bSl
  rcases fa ρ with _ | ⟨ra, ρ1⟩
  · simp
  rcases e1 : lo ρ1 with _ | ⟨l, ρ2⟩
  · simp [e1]
  rcases e2 : hi ρ2 with _ | ⟨h, ρ3⟩
  · simp [e1, e2]
  simp only [okQ_some, e1, e2]
  cases e3 : pk ρ3 ra.nrm with
  | none => simp
  | some x =>
    cases e4 : slD x l h <;> simp [e4]
@[simp ↓] theorem wE_TupE : wE (bTupE fs) ρ QE ↔ wA fs ρ fun rs ρ1 => oq (dsOf rs) fun ds => ds.length ≤ 16777216 ∧ QE (.d (.tup ds)) ρ1 := by
  unfold wE wA bTupE
  rcases fs ρ with _ | ⟨rs, ρ1⟩
  · simp
  cases e : dsOf rs with
  | none => simp [e]
  | some ds => by_cases h : ds.length ≤ 16777216 <;> simp [e, h]
@[simp ↓] theorem wE_LstE : wE (bLstE fs) ρ QE ↔ wA fs ρ fun rs ρ1 => oq (dsOf rs) fun ds => ds.length ≤ 16777216 ∧ QE (.own ds) ρ1 := by
  unfold wE wA bLstE
  rcases fs ρ with _ | ⟨rs, ρ1⟩
  · simp
  cases e : dsOf rs with
  | none => simp [e]
  | some ds => by_cases h : ds.length ≤ 16777216 <;> simp [e, h]
@[simp ↓] theorem wE_Chain {h h' : D → D → Option RV} : wE (bChain h h' fa fb fc) ρ QE ↔ wE fa ρ fun ra ρ1 => isD' ra fun x => wE fb ρ1 fun rb ρ2 => isD' rb fun y => oq (h x y) fun q => isBl q fun b => if b = true then wE fc ρ2 fun rc ρ3 => isD' rc fun z => oq (h' y z) fun q => QE q ρ3 else QE (.d (.bl false)) ρ2 := by
  unfold wE bChain
  rcases fa ρ with _ | ⟨ra, ρ1⟩
  · simp
  cases ra with
  | own x => simp
  | bor x => simp
  | d x =>
    rcases e1 : fb ρ1 with _ | ⟨rb, ρ2⟩
    · simp [e1]
    cases rb with
    | own x => simp [e1]
    | bor x => simp [e1]
    | d y =>
      simp only [okQ_some, e1, isD'_d]
      rcases e2 : h x y with _ | q
      · simp
      cases q with
      | own x => simp [isBl]
      | bor x => simp [isBl]
      | d q =>
        cases q with
        | bl b =>
          cases b with
          | false => simp
          | true =>
            simp
            rcases e3 : fc ρ2 with _ | ⟨rc, ρ3⟩
            · simp
            cases rc with
            | own x => simp
            | bor x => simp
            | d z => cases e4 : h' y z <;> simp [e4]
        | _ => simp [isBl]
@[simp ↓] theorem wE_Mt {h : List Nat → List D → Option RV} : wE (bMt h fa fs) ρ QE ↔ wE fa ρ fun ra ρ1 => isStr ra fun s => wA fs ρ1 fun rs ρ2 => oq (pks ρ2 rs) fun ds => oq (h s ds) fun z => QE z ρ2 := by
  unfold wE wA bMt
  rcases fa ρ with _ | ⟨ra, ρ1⟩
  · simp
  cases ra with
  | own x => simp [isStr]
  | bor x => simp [isStr]
  | d x =>
    cases x with
    | str s =>
      simp only [okQ_some, isStr_str]
      rcases e1 : fs ρ1 with _ | ⟨rs, ρ2⟩
      · simp
      cases e2 : pks ρ2 rs with
      | none => simp [e2]
      | some ds => cases e3 : h s ds <;> simp [e2, e3]
    | _ => simp [isStr]
@[simp ↓] theorem wE_ListRange : wE (bListRange fa) ρ QE ↔ wE fa ρ fun r ρ1 => isInt r fun j => (-4611686018427387904 ≤ j ∧ j ≤ 16777216) ∧ QE (.own ((List.range j.toNat).map fun k : Nat => D.int (k : Int))) ρ1 := by
  unfold wE bListRange
  rcases fa ρ with _ | ⟨r, ρ1⟩
  · simp
  cases r with
  | own x => simp [isInt]
  | bor x => simp [isInt]
  | d x =>
    cases x with
    | int j =>
      simp only [okQ_some, isInt_int]
      rw [show (-(2 ^ 62) : Int) = -4611686018427387904 from by decide]
      split
      · rename_i h; simp [h]
      · rename_i h; simp only [okQ_none, false_iff]; exact fun z => h z.1
    | _ => simp [isInt]
@[simp ↓] theorem wE_Fld {f : Str} : wE (bFld f fa) ρ QE ↔ wE fa ρ fun r ρ1 => isIns r fun _ ns xs => oq ((ns.zip xs).lookup f) fun d => QE (.d d) ρ1 := by
  unfold wE bFld
  rcases fa ρ with _ | ⟨r, ρ1⟩
  · simp
  cases r with
  | own x => simp [isIns]
  | bor x => simp [isIns]
  | d x =>
    cases x with
    | ins nm ns xs =>
      simp only [okQ_some, isIns_ins]
      cases e : (ns.zip xs).lookup f <;> simp
    | _ => simp [isIns]
@[simp ↓] theorem wE_Mk {nm : Str} {m : Nat} {h : List D → Option (List (Str × D))} : wE (bMk nm m h fs) ρ QE ↔ wA fs ρ fun rs ρ1 => oq (dsOf rs) fun ds => ds.length = m ∧ oq (h ds) fun r => QE (.d (.ins nm (r.map (·.1)) (r.map (·.2)))) ρ1 := by
  unfold wE wA bMk
  rcases fs ρ with _ | ⟨rs, ρ1⟩
  · simp
  cases e : dsOf rs with
  | none => simp [e]
  | some ds =>
    by_cases hl : ds.length = m
    · cases e2 : h ds <;> simp [e, hl, e2]
    · simp [e, hl]
@[simp ↓] theorem wE_Isi2 {T U : String} : wE (bIsi2 T U fa) ρ QE ↔ wE fa ρ fun r ρ1 => oq (pk ρ1 r.nrm) fun d => oq (tyD d) fun A => oq (kitB A T) fun b => if b = true then QE (.d (.bl true)) ρ1 else oq (kitB A U) fun c => QE (.d (.bl c)) ρ1 := by
  unfold wE bIsi2
  rcases fa ρ with _ | ⟨r, ρ1⟩
  · simp
  simp only [okQ_some]
  cases e1 : pk ρ1 r.nrm with
  | none => simp
  | some d =>
    cases e2 : tyD d with
    | none => simp [e2]
    | some A =>
      simp only [e2, oq_some]
      rcases e3 : kitB A T with _ | b
      · simp
      cases b with
      | true => simp
      | false => rcases e4 : kitB A U with _ | c <;> simp
@[simp] theorem bors_nil : bors [] = [] := rfl
@[simp] theorem bors_d {x : D} {rs : List RV} : bors (.d x :: rs) = bors rs := rfl
@[simp] theorem bors_own {x : List D} {rs : List RV} : bors (.own x :: rs) = bors rs := rfl
@[simp] theorem bors_bor {rs : List RV} : bors (.bor i :: rs) = i :: bors rs := rfl
@[simp] theorem argOf_d {x : D} : argOf ρ (.d x) = some (.d x) := rfl
@[simp] theorem argOf_bor : argOf ρ (.bor i) = (match ρ[i]? with
    | some (some (.own _ xs)) => some (.own true xs)
    | _ => none) := rfl
@[simp] theorem argsOf_nil : argsOf ρ [] = some [] := rfl
@[simp] theorem argsOf_cons {r : RV} {rs : List RV} : argsOf ρ (r :: rs) = (match argOf ρ r, argsOf ρ rs with
    | some x, some xs => some (x :: xs)
    | _, _ => none) := rfl
@[simp] theorem give_nil : give [] [] ρ = some ρ := rfl
@[simp] theorem give_d {x y : D} {rs : List RV} {as : List SV} : give (.d x :: rs) (.d y :: as) ρ = give rs as ρ := rfl
@[simp] theorem give_bor {b : Bool} {y : List D} {rs : List RV} {as : List SV} : give (.bor i :: rs) (.own b y :: as) ρ = (match ρ[i]? with
    | some (some (.own b _)) => give rs as (ρ.set i (some (.own b y)))
    | _ => none) := rfl
@[simp ↓] theorem wE_Call {F : Fx} : wE (bCall F fs) ρ QE ↔ wA fs ρ fun rs ρ1 => (bors rs).Nodup ∧ oq (argsOf ρ1 rs) fun args => wF F args fun r as => nobor r ∧ oq (give rs as ρ1) fun ρ2 => QE r ρ2 := by
  unfold wE wA wF bCall
  rcases fs ρ with _ | ⟨rs, ρ1⟩
  · simp
  simp only [okQ_some]
  by_cases hn : (bors rs).Nodup
  · rw [if_pos hn]
    cases e1 : argsOf ρ1 rs with
    | none => simp
    | some args =>
      rcases e2 : F args with _ | ⟨r, as⟩
      · simp [e2]
      cases r with
      | bor i => simp [e2, nobor]
      | d x => cases e3 : give rs as ρ1 <;> simp [e2, hn, e3]
      | own x => cases e3 : give rs as ρ1 <;> simp [e2, hn, e3]
  · rw [if_neg hn]
    simp [hn]
@[simp] theorem outs_nil : outs [] n ρ = some [] := rfl
@[simp] theorem outs_d {x : D} {as : List SV} : outs (.d x :: as) n ρ = (outs as (n + 1) ρ).map fun r => .d x :: r := rfl
@[simp] theorem outs_own {b : Bool} {xs : List D} {as : List SV} : outs (.own b xs :: as) n ρ = (match ρ[n]? with
  | some (some (.own true ys)) => (outs as (n + 1) ρ).map fun r => .own true ys :: r
  | _ => none) := rfl
@[simp] theorem fin_nx : fin .nx ρ = some (.d .non) := rfl
@[simp] theorem fin_d {x : D} : fin (.rt (.d x)) ρ = some (.d x) := rfl
@[simp] theorem fin_own {x : List D} : fin (.rt (.own x)) ρ = some (.own x) := rfl
@[simp] theorem fin_bor : fin (.rt (.bor i)) ρ = (match ρ[i]? with
    | some (some (.own false xs)) => some (.own xs)
    | _ => none) := rfl
theorem wF_run {m : Nat} {body : Sx} {args : List SV} {Q : RV → List SV → Prop} : wF (runB n m body) args Q ↔ args.length = m ∧ wS body (args.map some ++ List.replicate (n - args.length) none) fun fl ρ => oq (fin fl ρ) fun r => oq (outs args 0 ρ) fun as => Q r as := by
  unfold wF wS runB
  by_cases h : args.length = m
  · rw [if_pos h]
    rcases body (args.map some ++ List.replicate (n - args.length) none) with _ | ⟨fl, ρ⟩
    · simp
    cases e1 : fin fl ρ <;> cases e2 : outs args 0 ρ <;> simp [h, e1, e2]
  · rw [if_neg h]
    simp [h]
@[simp ↓] theorem wS_For {it : Ix} {bind : Bx} : wS (sFor it bind f) ρ QS ↔ wI it ρ fun xs ρ1 => wR bind f xs ρ1 QS := by
  unfold wS wI wR sFor
  rcases it ρ with _ | ⟨xs, ρ1⟩ <;> simp
@[simp ↓] theorem wR_nil {bind : Bx} : wR bind f [] ρ QS ↔ QS .nx ρ := by
  unfold wR
  exact Iff.rfl
def nextR (bind : Bx) (f : Sx) (xs : List D) (Q : Fl → Sl → Prop) : Fl → Sl → Prop := fun fl ρ => match fl with
  | .nx => wR bind f xs ρ Q
  | .ct => wR bind f xs ρ Q
  | .bk => Q .nx ρ
  | .rt r => Q (.rt r) ρ
@[simp ↓] theorem nextR_nx {bind : Bx} {xs : List D} : nextR bind f xs QS .nx ρ ↔ wR bind f xs ρ QS := Iff.rfl
@[simp ↓] theorem nextR_ct {bind : Bx} {xs : List D} : nextR bind f xs QS .ct ρ ↔ wR bind f xs ρ QS := Iff.rfl
@[simp ↓] theorem nextR_bk {bind : Bx} {xs : List D} : nextR bind f xs QS .bk ρ ↔ QS .nx ρ := Iff.rfl
@[simp ↓] theorem nextR_rt {bind : Bx} {xs : List D} {r : RV} : nextR bind f xs QS (.rt r) ρ ↔ QS (.rt r) ρ := Iff.rfl
theorem wR_cons {bind : Bx} {x : D} {xs : List D} : wR bind f (x :: xs) ρ QS ↔ oq (bind x ρ) fun ρ1 => wS f ρ1 (nextR bind f xs QS) := by
  unfold wR wS forGo
  cases e1 : bind x ρ with
  | none => simp
  | some ρ1 =>
    rcases e2 : f ρ1 with _ | ⟨fl, ρ2⟩
    · simp [e2]
    cases fl <;> simp [e2, wR]
@[simp] theorem bName_ap {x : D} : bName i x ρ = some (ρ.set i (some (.d x))) := rfl
@[simp] theorem bTup_ap {is : List Nat} {xs : List D} : bTup is (.tup xs) ρ = bNames is xs ρ := rfl
@[simp] theorem bNames_nil : bNames [] [] ρ = some ρ := rfl
@[simp] theorem bNames_cons {is : List Nat} {x : D} {xs : List D} : bNames (i :: is) (x :: xs) ρ = bNames is xs (ρ.set i (some (.d x))) := rfl
theorem wR_inv {bind : Bx} (P : Nat → Sl → Prop) : ∀ {xs : List D} {k : Nat} {ρ : Sl}, P k ρ → (∀ i x ρ, xs[i]? = some x → P (k + i) ρ → oq (bind x ρ) fun ρ1 => wS f ρ1 fun fl ρ2 => match fl with
    | .nx => P (k + i + 1) ρ2
    | .ct => P (k + i + 1) ρ2
    | .bk => QS .nx ρ2
    | .rt r => QS (.rt r) ρ2) → (∀ ρ, P (k + xs.length) ρ → QS .nx ρ) → wR bind f xs ρ QS
  | [], k, ρ, h, _, he => wR_nil.mpr (he ρ h)
  | x :: xs, k, ρ, h, hs, he => by
    rw [wR_cons]
    obtain ⟨ρ1, e1, h1⟩ := oq_iff.mp (hs 0 x ρ rfl h)
    rw [e1]
    refine h1.imp fun fl ρ2 q => ?_
    have go : P (k + 0 + 1) ρ2 → wR bind f xs ρ2 QS := fun q => wR_inv P (xs := xs) (k := k + 1) q (fun i x ρ hx hp => by
      have := hs (i + 1) x ρ (by simpa using hx) (by have e : k + (i + 1) = k + 1 + i := by omega
                                                     rw [e]; exact hp)
      have e : k + (i + 1) + 1 = k + 1 + i + 1 := by omega
      rw [e] at this
      exact this) fun ρ hp => he ρ (by have e : k + (x :: xs).length = k + 1 + xs.length := by simp; omega
                                       rw [e]; exact hp)
    cases fl with
    | nx => exact go q
    | ct => exact go q
    | bk => exact q
    | rt r => exact q
@[simp ↓] theorem wS_While : wS (sWhile n c f) ρ QS ↔ wW c f n ρ QS := by
  unfold wW
  exact Iff.rfl
theorem wW_inv (P : Nat → Sl → Prop) : ∀ {n k : Nat} {ρ : Sl}, k < n → P k ρ → (∀ k ρ, P k ρ → wT c ρ fun b ρ1 => if b = true then wS f ρ1 fun fl ρ2 => match fl with
    | .nx => ∃ k', k' < k ∧ P k' ρ2
    | .ct => ∃ k', k' < k ∧ P k' ρ2
    | .bk => QS .nx ρ2
    | .rt r => QS (.rt r) ρ2
    else QS .nx ρ1) → wW c f n ρ QS
  | 0, k, ρ, h, _, _ => absurd h (Nat.not_lt_zero _)
  | n + 1, k, ρ, h, hp, hs => by
    have h1 := hs k ρ hp
    unfold wW whileN
    unfold wT at h1
    rcases e : c ρ with _ | ⟨b, ρ1⟩
    · rw [e] at h1; exact h1.elim
    rw [e] at h1
    cases b with
    | false => exact h1
    | true =>
      have h1 : wS f ρ1 _ := h1
      obtain ⟨fl, ρ2, e2, hq⟩ := okQ.ex h1
      simp only [e2, if_true]
      cases fl with
      | nx => obtain ⟨k', hk, hp'⟩ := hq; exact wW_def.mp (wW_inv P (n := n) (k := k') (by omega) hp' hs)
      | ct => obtain ⟨k', hk, hp'⟩ := hq; exact wW_def.mp (wW_inv P (n := n) (k := k') (by omega) hp' hs)
      | bk => exact hq
      | rt r => exact hq
@[simp ↓] theorem wI_Range1 : wI (iRange1 fa) ρ QI ↔ wE fa ρ fun r ρ1 => isInt r fun j => (-4611686018427387904 ≤ j ∧ j < 4611686018427387904) ∧ QI ((List.range j.toNat).map fun k : Nat => D.int (k : Int)) ρ1 := by
  unfold wE wI iRange1
  rcases fa ρ with _ | ⟨r, ρ1⟩
  · simp
  cases r with
  | own x => simp [isInt]
  | bor x => simp [isInt]
  | d x =>
    cases x with
    | int j =>
      simp only [okQ_some, isInt_int]
      rw [show (-(2 ^ 62) : Int) = -4611686018427387904 from by decide, show ((2 ^ 62) : Int) = 4611686018427387904 from by decide]
      split
      · rename_i h; simp [h]
      · rename_i h; simp only [okQ_none, false_iff]; exact fun z => h z.1
    | _ => simp [isInt]
@[simp ↓] theorem wI_Range2 : wI (iRange2 fa fb) ρ QI ↔ wE fa ρ fun r ρ1 => isInt r fun i => wE fb ρ1 fun q ρ2 => isInt q fun j => (-4611686018427387904 ≤ i ∧ i < 4611686018427387904 ∧ -4611686018427387904 ≤ j ∧ j < 4611686018427387904) ∧ QI ((List.range (j - i).toNat).map fun k : Nat => D.int (i + (k : Int))) ρ2 := by
  unfold wE wI iRange2
  rcases fa ρ with _ | ⟨r, ρ1⟩
  · simp
  cases r with
  | own x => simp [isInt]
  | bor x => simp [isInt]
  | d x =>
    cases x with
    | int i =>
      simp only [okQ_some, isInt_int]
      rcases fb ρ1 with _ | ⟨q, ρ2⟩
      · simp
      cases q with
      | own x => simp [isInt]
      | bor x => simp [isInt]
      | d y =>
        cases y with
        | int j =>
          simp only [okQ_some, isInt_int]
          rw [show (-(2 ^ 62) : Int) = -4611686018427387904 from by decide, show ((2 ^ 62) : Int) = 4611686018427387904 from by decide]
          split
          · rename_i h; simp [h]
          · rename_i h; simp only [okQ_none, false_iff]; exact fun z => h z.1
        | _ => simp [isInt]
    | _ => simp [isInt]
@[simp ↓] theorem wI_Range3 : wI (iRange3 fa fb fc) ρ QI ↔ wE fa ρ fun r ρ1 => isInt r fun i => wE fb ρ1 fun q ρ2 => isInt q fun j => wE fc ρ2 fun p ρ3 => isInt p fun k => (k = -1 ∧ -4611686018427387904 ≤ i ∧ i < 4611686018427387904 ∧ -4611686018427387904 ≤ j ∧ j < 4611686018427387904) ∧ QI ((List.range (i - j).toNat).map fun k : Nat => D.int (i + -(k : Int))) ρ3 := by
  unfold wE wI iRange3
  rcases fa ρ with _ | ⟨r, ρ1⟩
  · simp
  cases r with
  | own x => simp [isInt]
  | bor x => simp [isInt]
  | d x =>
    cases x with
    | int i =>
      simp only [okQ_some, isInt_int]
      rcases fb ρ1 with _ | ⟨q, ρ2⟩
      · simp
      cases q with
      | own x => simp [isInt]
      | bor x => simp [isInt]
      | d y =>
        cases y with
        | int j =>
          simp only [okQ_some, isInt_int]
          rcases fc ρ2 with _ | ⟨p, ρ3⟩
          · simp
          cases p with
          | own x => simp [isInt]
          | bor x => simp [isInt]
          | d u =>
            cases u with
            | int k =>
              simp only [okQ_some, isInt_int]
              rw [show (-(2 ^ 62) : Int) = -4611686018427387904 from by decide, show ((2 ^ 62) : Int) = 4611686018427387904 from by decide]
              split
              · rename_i h; simp [h]
              · rename_i h; simp only [okQ_none, false_iff]; exact fun z => h z.1
            | _ => simp [isInt]
        | _ => simp [isInt]
    | _ => simp [isInt]
@[simp ↓] theorem wI_Lst : wI (iLst fa) ρ QI ↔ wE (bFz fa) ρ fun r ρ1 => isLst r fun xs => QI xs ρ1 := by
  unfold wE wI iLst
  rcases bFz fa ρ with _ | ⟨r, ρ1⟩
  · simp
  cases r with
  | d x => cases x <;> simp [isBl, isInt, isStr, isLst, isTup]
  | own x => simp [isBl, isInt, isStr, isLst, isTup]
  | bor x => simp [isBl, isInt, isStr, isLst, isTup]
@[simp ↓] theorem wI_Tpl : wI (iTpl fa) ρ QI ↔ wE fa ρ fun r ρ1 => isTup r fun xs => QI xs ρ1 := by
  unfold wE wI iTpl
  rcases fa ρ with _ | ⟨r, ρ1⟩
  · simp
  cases r with
  | d x => cases x <;> simp [isBl, isInt, isStr, isLst, isTup]
  | own x => simp [isBl, isInt, isStr, isLst, isTup]
  | bor x => simp [isBl, isInt, isStr, isLst, isTup]
@[simp ↓] theorem wI_Txt : wI (iTxt fa) ρ QI ↔ wE fa ρ fun r ρ1 => isStr r fun s => QI (s.map fun c => D.str [c]) ρ1 := by
  unfold wE wI iTxt
  rcases fa ρ with _ | ⟨r, ρ1⟩
  · simp
  cases r with
  | d x => cases x <;> simp [isBl, isInt, isStr, isLst, isTup]
  | own x => simp [isBl, isInt, isStr, isLst, isTup]
  | bor x => simp [isBl, isInt, isStr, isLst, isTup]
@[simp ↓] theorem wE_Comp {it : Ix} {vs : List Nat} {bind : Bx} : wE (bComp it vs bind c fe) ρ QE ↔ wI it ρ fun xs ρ1 => noOwn ρ1 vs = true ∧ wC vs bind c fe xs [] (wipeS ρ1 vs) fun ys ρ2 => QE (.own ys) (restS ρ1 ρ2 vs) := by
  unfold wE wI wC bComp
  rcases it ρ with _ | ⟨xs, ρ1⟩
  · simp
  simp only [okQ_some]
  by_cases h : noOwn ρ1 vs = true
  · rw [if_pos h]
    rcases compGo vs bind c fe xs [] (wipeS ρ1 vs) with _ | ⟨ys, ρ2⟩ <;> simp [h]
  · rw [if_neg h]
    simp [h]
theorem wC_inv {vs : List Nat} {bind : Bx} (P : Nat → List D → Sl → Prop) {QC : List D → Sl → Prop} : ∀ {xs acc : List D} {k : Nat} {ρ : Sl}, P k acc ρ → (∀ i x acc ρ, xs[i]? = some x → P (k + i) acc ρ → oq (bind x ρ) fun ρ1 => wT c ρ1 fun b ρ2 => if b = true then wE (bFz fe) ρ2 fun r ρ3 => isD' r fun y => acc.length < 16777216 ∧ P (k + i + 1) (acc ++ [y]) (wipeS ρ3 vs) else P (k + i + 1) acc (wipeS ρ2 vs)) →
    (∀ acc ρ, P (k + xs.length) acc ρ → QC acc ρ) → wC vs bind c fe xs acc ρ QC
  | [], acc, k, ρ, h, _, he => by
    unfold wC
    exact he acc ρ h
  | x :: xs, acc, k, ρ, h, hs, he => by
    obtain ⟨ρ1, e1, h1⟩ := oq_iff.mp (hs 0 x acc ρ rfl h)
    have go : ∀ acc ρ2, P (k + 0 + 1) acc ρ2 → wC vs bind c fe xs acc ρ2 QC := fun acc ρ2 q => wC_inv P (xs := xs) (k := k + 1) q (fun i x acc ρ hx hp => by
      have := hs (i + 1) x acc ρ (by simpa using hx) (by have e : k + (i + 1) = k + 1 + i := by omega
                                                         rw [e]; exact hp)
      have e : k + (i + 1) + 1 = k + 1 + i + 1 := by omega
      rw [e] at this
      exact this) fun acc ρ hp => he acc ρ (by have e : k + (x :: xs).length = k + 1 + xs.length := by simp; omega
                                               rw [e]; exact hp)
    unfold wC compGo
    simp only [e1]
    unfold wT at h1
    rcases e2 : c ρ1 with _ | ⟨b, ρ2⟩
    · rw [e2] at h1; exact h1.elim
    rw [e2] at h1
    simp only
    cases b with
    | false => exact wC_def.mp (go acc _ h1)
    | true =>
      have h1 : wE (bFz fe) ρ2 _ := h1
      obtain ⟨r, ρ3, e3, hq⟩ := okQ.ex h1
      cases r with
      | own x => exact hq.elim
      | bor x => exact hq.elim
      | d y =>
      obtain ⟨hl, hp⟩ := hq
      simp only [e3, hl, if_true]
      exact wC_def.mp (go _ _ hp)
theorem wC_map {vs : List Nat} {bind : Bx} {QC : List D → Sl → Prop} (p : D → Bool) (h : D → D) {xs : List D} (hl : xs.length ≤ 16777216)
    (hs : ∀ x ∈ xs, oq (bind x ρ) fun ρ1 => wT c ρ1 fun b ρ2 => b = p x ∧ if b = true then wE (bFz fe) ρ2 fun r ρ3 => r = .d (h x) ∧ wipeS ρ3 vs = ρ else wipeS ρ2 vs = ρ) (he : QC ((xs.filter p).map h) ρ) : wC vs bind c fe xs [] ρ QC := by
  refine wC_inv (fun i acc ρ' => acc = ((xs.take i).filter p).map h ∧ ρ' = ρ) (xs := xs) (k := 0) ⟨by simp, rfl⟩ (fun i x acc ρ' hx hP => ?_) fun acc ρ' hP => ?_
  · obtain ⟨rfl, rfl⟩ := hP
    have hi : i < xs.length := (List.getElem?_eq_some_iff.mp hx).1
    have hx' : xs[i] = x := (List.getElem?_eq_some_iff.mp hx).2
    obtain ⟨ρ1, e1, h1⟩ := oq_iff.mp (hs x (hx' ▸ List.getElem_mem hi))
    rw [e1]
    refine okQ.imp h1 fun b ρ2 q => ?_
    obtain ⟨hb, q⟩ := q
    have et : xs.take (i + 1) = xs.take i ++ [x] := by rw [List.take_succ_eq_append_getElem hi, hx']
    cases b with
    | false =>
      refine ⟨?_, q⟩
      simp only [Nat.zero_add]
      rw [et, List.filter_append]
      simp [← hb]
    | true =>
      refine okQ.imp (show wE (bFz fe) ρ2 _ from q) fun r ρ3 q => ?_
      obtain ⟨rfl, q⟩ := q
      refine ⟨?_, ?_, q⟩
      · simp only [List.length_map, Nat.zero_add]
        have := List.length_filter_le p (xs.take i)
        simp at this
        omega
      · simp only [Nat.zero_add]
        rw [et, List.filter_append]
        simp [← hb]
  · obtain ⟨rfl, rfl⟩ := hP
    simpa using he
theorem wC_mapA {vs : List Nat} {bind : Bx} {QC : List D → Sl → Prop} (p : D → Bool) (h : D → D) {xs acc0 : List D} (hl : acc0.length + xs.length ≤ 16777216)
    (hs : ∀ x ∈ xs, oq (bind x ρ) fun ρ1 => wT c ρ1 fun b ρ2 => b = p x ∧ if b = true then wE (bFz fe) ρ2 fun r ρ3 => r = .d (h x) ∧ wipeS ρ3 vs = ρ else wipeS ρ2 vs = ρ) (he : QC (acc0 ++ (xs.filter p).map h) ρ) : wC vs bind c fe xs acc0 ρ QC := by
  refine wC_inv (fun i acc ρ' => acc = acc0 ++ ((xs.take i).filter p).map h ∧ ρ' = ρ) (xs := xs) (k := 0) ⟨by simp, rfl⟩ (fun i x acc ρ' hx hP => ?_) fun acc ρ' hP => ?_
  · obtain ⟨rfl, rfl⟩ := hP
    have hi : i < xs.length := (List.getElem?_eq_some_iff.mp hx).1
    have hx' : xs[i] = x := (List.getElem?_eq_some_iff.mp hx).2
    obtain ⟨ρ1, e1, h1⟩ := oq_iff.mp (hs x (hx' ▸ List.getElem_mem hi))
    rw [e1]
    refine okQ.imp h1 fun b ρ2 q => ?_
    obtain ⟨hb, q⟩ := q
    have et : xs.take (i + 1) = xs.take i ++ [x] := by rw [List.take_succ_eq_append_getElem hi, hx']
    cases b with
    | false =>
      refine ⟨?_, q⟩
      simp only [Nat.zero_add]
      rw [et, List.filter_append]
      simp [← hb]
    | true =>
      refine okQ.imp (show wE (bFz fe) ρ2 _ from q) fun r ρ3 q => ?_
      obtain ⟨rfl, q⟩ := q
      refine ⟨?_, ?_, q⟩
      · simp only [List.length_append, List.length_map, Nat.zero_add]
        have := List.length_filter_le p (xs.take i)
        simp at this
        omega
      · simp only [Nat.zero_add]
        rw [et, List.filter_append]
        simp [← hb]
  · obtain ⟨rfl, rfl⟩ := hP
    simpa using he
@[simp ↓] theorem wE_Comp2 {it it1 : Ix} {vs vs1 : List Nat} {bind bind1 : Bx} : wE (bComp2 it vs vs1 bind c it1 bind1 d fe) ρ QE ↔ wI it ρ fun xs ρ1 => noOwn ρ1 vs = true ∧ wC2 vs vs1 bind c it1 bind1 d fe xs [] (wipeS ρ1 vs) fun ys ρ2 => QE (.own ys) (restS ρ1 ρ2 vs) := by
  unfold wE wI wC2 bComp2
  rcases it ρ with _ | ⟨xs, ρ1⟩
  · simp
  simp only [okQ_some]
  by_cases h : noOwn ρ1 vs = true
  · rw [if_pos h]
    rcases comp2Go vs vs1 bind c it1 bind1 d fe xs [] (wipeS ρ1 vs) with _ | ⟨ys, ρ2⟩ <;> simp [h]
  · rw [if_neg h]
    simp [h]
theorem wC2_inv {vs vs1 : List Nat} {it1 : Ix} {bind bind1 : Bx} (P : Nat → List D → Sl → Prop) {QC : List D → Sl → Prop} : ∀ {xs acc : List D} {k : Nat} {ρ : Sl}, P k acc ρ → (∀ i x acc ρ, xs[i]? = some x → P (k + i) acc ρ → oq (bind x ρ) fun ρ1 => wT c ρ1 fun b ρ2 => if b = true then wI it1 ρ2 fun zs ρ3 => wC vs1 bind1 d fe zs acc (wipeS ρ3 vs1) fun acc' ρ4 => P (k + i + 1) acc' (wipeS ρ4 vs) else P (k + i + 1) acc (wipeS ρ2 vs)) →
    (∀ acc ρ, P (k + xs.length) acc ρ → QC acc ρ) → wC2 vs vs1 bind c it1 bind1 d fe xs acc ρ QC
  | [], acc, k, ρ, h, _, he => by
    unfold wC2
    exact he acc ρ h
  | x :: xs, acc, k, ρ, h, hs, he => by
    obtain ⟨ρ1, e1, h1⟩ := oq_iff.mp (hs 0 x acc ρ rfl h)
    have go : ∀ acc ρ2, P (k + 0 + 1) acc ρ2 → wC2 vs vs1 bind c it1 bind1 d fe xs acc ρ2 QC := fun acc ρ2 q => wC2_inv P (xs := xs) (k := k + 1) q (fun i x acc ρ hx hp => by
      have := hs (i + 1) x acc ρ (by simpa using hx) (by have e : k + (i + 1) = k + 1 + i := by omega
                                                         rw [e]; exact hp)
      have e : k + (i + 1) + 1 = k + 1 + i + 1 := by omega
      rw [e] at this
      exact this) fun acc ρ hp => he acc ρ (by have e : k + (x :: xs).length = k + 1 + xs.length := by simp; omega
                                               rw [e]; exact hp)
    unfold wC2 comp2Go
    simp only [e1]
    unfold wT at h1
    rcases e2 : c ρ1 with _ | ⟨b, ρ2⟩
    · rw [e2] at h1; exact h1.elim
    rw [e2] at h1
    simp only
    cases b with
    | false => exact wC2_def.mp (go acc _ h1)
    | true =>
      have h1 : wI it1 ρ2 _ := h1
      obtain ⟨zs, ρ3, e3, h2⟩ := okQ.ex h1
      obtain ⟨acc', ρ4, e4, h3⟩ := okQ.ex (wC_def.mp h2)
      simp only [e3, e4, if_true]
      exact wC2_def.mp (go _ _ h3)
theorem wC2_map {vs vs1 : List Nat} {it1 : Ix} {bind bind1 : Bx} {QC : List D → Sl → Prop} (zs : D → List D) (h : D → D → D) {xs : List D} (hl : (xs.flatMap fun x => (zs x).map (h x)).length ≤ 16777216)
    (hs : ∀ x ∈ xs, oq (bind x ρ) fun ρ1 => wT c ρ1 fun b ρ2 => b = true ∧ wI it1 ρ2 fun ys ρ3 => ys = zs x ∧ ∀ acc : List D, acc.length + (zs x).length ≤ 16777216 → ∀ Q : List D → Sl → Prop, (∀ ρ4, wipeS ρ4 vs = ρ → Q (acc ++ (zs x).map (h x)) ρ4) → wC vs1 bind1 d fe (zs x) acc (wipeS ρ3 vs1) Q) (he : QC (xs.flatMap fun x => (zs x).map (h x)) ρ) : wC2 vs vs1 bind c it1 bind1 d fe xs [] ρ QC := by
  refine wC2_inv (fun i acc ρ' => acc = (xs.take i).flatMap (fun x => (zs x).map (h x)) ∧ ρ' = ρ) (xs := xs) (k := 0) ⟨by simp, rfl⟩ (fun i x acc ρ' hx hP => ?_) fun acc ρ' hP => ?_
  · obtain ⟨rfl, rfl⟩ := hP
    have hi : i < xs.length := (List.getElem?_eq_some_iff.mp hx).1
    have hx' : xs[i] = x := (List.getElem?_eq_some_iff.mp hx).2
    obtain ⟨ρ1, e1, h1⟩ := oq_iff.mp (hs x (hx' ▸ List.getElem_mem hi))
    rw [e1]
    have et : xs.take (i + 1) = xs.take i ++ [x] := by rw [List.take_succ_eq_append_getElem hi, hx']
    refine okQ.imp h1 fun b ρ2 q => ?_
    obtain ⟨rfl, q⟩ := q
    refine okQ.imp q fun ys ρ3 q => ?_
    obtain ⟨rfl, q⟩ := q
    refine q _ ?_ _ fun ρ4 e4 => ⟨?_, e4⟩
    · have e5 : xs = xs.take (i + 1) ++ xs.drop (i + 1) := (List.take_append_drop _ _).symm
      rw [e5, et, List.flatMap_append, List.flatMap_append, List.length_append, List.length_append] at hl
      simp at hl ⊢
      omega
    · simp only [Nat.zero_add]
      rw [et, List.flatMap_append]
      simp
  · obtain ⟨rfl, rfl⟩ := hP
    simpa using he
end
end M
namespace M
open PySem PySem.Spec PyProof.Rows L2 TL
section
variable {i j k : Int} {a b : List Nat} {xs ys : List D} {x y : D} {c d : Bool}
theorem p64 : (2 ^ 64 : Int) = 18446744073709551616 := by decide
theorem p64n : (2 ^ 64 : Nat) = 18446744073709551616 := by decide
@[simp] theorem addD_int : addD (.int i) (.int j) = some (.d (.int (i + j))) := rfl
@[simp] theorem addD_str : addD (.str a) (.str b) = if a.length + b.length ≤ 16777216 then some (.d (.str (a ++ b))) else none := rfl
@[simp] theorem addD_lst : addD (.lst xs) (.lst ys) = if xs.length + ys.length ≤ 16777216 then some (.own (xs ++ ys)) else none := rfl
@[simp] theorem addD_tup : addD (.tup xs) (.tup ys) = if xs.length + ys.length ≤ 16777216 then some (.d (.tup (xs ++ ys))) else none := rfl
@[simp] theorem subD_int : subD (.int i) (.int j) = some (.d (.int (i - j))) := rfl
@[simp] theorem mulD_int : mulD (.int i) (.int j) = if ((-18446744073709551616 < i ∧ i < 18446744073709551616) ∨ (-18446744073709551616 < j ∧ j < 18446744073709551616)) then some (.d (.int (i * j))) else none := by
  simp only [mulD, iiD, mulC, p64, decide_eq_true_eq]
@[simp] theorem fdivD_int : fdivD (.int i) (.int j) = if (0 < j ∧ j < 1073741824) then some (.d (.int (i / j))) else none := by
  simp only [fdivD, iiD, fdivC, decide_eq_true_eq]
@[simp] theorem modD_int : modD (.int i) (.int j) = if 0 < j then some (.d (.int (i % j))) else none := by
  simp only [modD, iiD, modC, decide_eq_true_eq]
@[simp] theorem powD_int : powD (.int i) (.int j) = if (0 ≤ j ∧ j ≤ 1000000 ∧ i.natAbs < 18446744073709551616) then some (.d (.int (i ^ j.toNat))) else none := by
  simp only [powD, iiD, powC, p64n, decide_eq_true_eq]
@[simp] theorem negD_int : negD (.int i) = some (.d (.int (-i))) := rfl
@[simp] theorem ltD_int : ltD (.int i) (.int j) = some (.d (.bl (decide (i < j)))) := rfl
@[simp] theorem leD_int : leD (.int i) (.int j) = some (.d (.bl (decide (i ≤ j)))) := rfl
@[simp] theorem gtD_int : gtD (.int i) (.int j) = some (.d (.bl (decide (j < i)))) := rfl
@[simp] theorem geD_int : geD (.int i) (.int j) = some (.d (.bl (decide (j ≤ i)))) := rfl
@[simp] theorem eqD_int : eqD (.int i) (.int j) = some (.d (.bl (decide (i = j)))) := rfl
@[simp] theorem eqD_str : eqD (.str a) (.str b) = some (.d (.bl (decide (a = b)))) := rfl
@[simp] theorem eqD_bl : eqD (.bl c) (.bl d) = some (.d (.bl (decide (c = d)))) := rfl
@[simp] theorem eqD_non : eqD .non .non = some (.d (.bl true)) := rfl
@[simp] theorem eqD_ns : eqD .non (.str a) = some (.d (.bl false)) := rfl
@[simp] theorem eqD_sn : eqD (.str a) .non = some (.d (.bl false)) := rfl
@[simp] theorem neD_int : neD (.int i) (.int j) = some (.d (.bl (!decide (i = j)))) := rfl
@[simp] theorem neD_str : neD (.str a) (.str b) = some (.d (.bl (!decide (a = b)))) := rfl
@[simp] theorem neD_bl : neD (.bl c) (.bl d) = some (.d (.bl (!decide (c = d)))) := rfl
@[simp] theorem isD_bl : isD (.bl c) (.bl d) = some (.d (.bl (decide (c = d)))) := rfl
@[simp] theorem isD_nn : isD .non .non = some (.d (.bl true)) := rfl
@[simp] theorem isD_in : isD (.int i) .non = some (.d (.bl false)) := rfl
@[simp] theorem isD_sn : isD (.str a) .non = some (.d (.bl false)) := rfl
@[simp] theorem isD_bn : isD (.bl c) .non = some (.d (.bl false)) := rfl
@[simp] theorem isD_ln : isD (.lst xs) .non = some (.d (.bl false)) := rfl
@[simp] theorem isD_tn : isD (.tup xs) .non = some (.d (.bl false)) := rfl
@[simp] theorem isnD_nn : isnD .non .non = some (.d (.bl false)) := rfl
@[simp] theorem isnD_in : isnD (.int i) .non = some (.d (.bl true)) := rfl
@[simp] theorem isnD_sn : isnD (.str a) .non = some (.d (.bl true)) := rfl
@[simp] theorem isnD_bn : isnD (.bl c) .non = some (.d (.bl true)) := rfl
@[simp] theorem isnD_ln : isnD (.lst xs) .non = some (.d (.bl true)) := rfl
@[simp] theorem isnD_tn : isnD (.tup xs) .non = some (.d (.bl true)) := rfl
@[simp] theorem inD_sign {n : Nat} : inD (.str [n]) (.str a) = some (.d (.bl (decide (n ∈ a)))) := rfl
@[simp] theorem ninD_sign {n : Nat} : ninD (.str [n]) (.str a) = some (.d (.bl (!decide (n ∈ a)))) := rfl
@[simp] theorem ixD_lst : ixD (.lst xs) (.int i) = (atI xs i).map .d := rfl
@[simp] theorem ixD_tup : ixD (.tup xs) (.int i) = (atI xs i).map .d := rfl
@[simp] theorem ixD_scr : ixD (.scr xs) (.int i) = (atI xs i).map .d := rfl
theorem ixD_str : ixD (.str a) (.int i) = if a.length ≤ 16777216 then (atI a i).map (fun c => .d (.str [c])) else none := rfl
@[simp] theorem ixD_str' {P : RV → Prop} : oq (ixD (.str a) (.int i)) P ↔ a.length ≤ 16777216 ∧ oq (atI a i) fun c => P (.d (.str [c])) := by
  rw [ixD_str]
  split
  · rename_i h; simp [h]
  · rename_i h; simp [h]
@[simp] theorem lenD_str : lenD [.str a] = if a.length ≤ 16777216 then some (.d (.int a.length)) else none := rfl
@[simp] theorem lenD_lst : lenD [.lst xs] = some (.d (.int xs.length)) := rfl
@[simp] theorem lenD_tup : lenD [.tup xs] = some (.d (.int xs.length)) := rfl
@[simp] theorem lenD_scr : lenD [.scr xs] = some (.d (.int xs.length)) := rfl
@[simp] theorem absD_int : absD [.int i] = some (.d (.int (if i < 0 then -i else i))) := rfl
@[simp] theorem intD_int : intD [.int i] = some (.d (.int i)) := rfl
@[simp] theorem intD_bl : intD [.bl c] = some (.d (.int (if c then 1 else 0))) := rfl
@[simp] theorem minD_2 : minD [.int i, .int j] = some (.d (.int (if j < i then j else i))) := rfl
@[simp] theorem maxD_2 : maxD [.int i, .int j] = some (.d (.int (if j > i then j else i))) := rfl
@[simp] theorem tupleD_lst : tupleD [.lst xs] = some (.d (.tup xs)) := rfl
@[simp] theorem tupleD_tup : tupleD [.tup xs] = some (.d (.tup xs)) := rfl
@[simp] theorem listD_lst : listD [.lst xs] = some (.own xs) := rfl
@[simp] theorem listD_tup : listD [.tup xs] = some (.own xs) := rfl
@[simp] theorem listD_scr : listD [.scr xs] = some (.own xs) := rfl
@[simp] theorem appendD_1 : appendD xs [x] = if xs.length < 16777216 then some (xs ++ [x], .non) else none := rfl
@[simp] theorem extendD_1 : extendD xs [.lst ys] = if xs.length + ys.length ≤ 16777216 then some (xs ++ ys, .non) else none := rfl
@[simp] theorem okQ_ite {α β : Type} {p : Prop} [Decidable p] {r : α} {s : β} {Q : α → β → Prop} : okQ (if p then some (r, s) else none) Q ↔ p ∧ Q r s := by by_cases h : p <;> simp [h]
theorem popAtD_1 {n : Nat} (h : n < xs.length) (hl : xs.length ≤ 16777216) : popAtD xs [.int n] = some (xs.eraseIdx n, xs[n]) := by
  have e : seqIndex? (n : Int) xs.length = some n := by
    unfold seqIndex?
    have h1 : ¬ ((n : Int) < 0) := by omega
    simp [h1, h]
  unfold popAtD
  simp only [e]
  rw [if_pos ⟨by omega, by omega⟩]
  rw [List.getElem?_eq_getElem h]
theorem intsOf_ints : ∀ ns : List Int, intsOf (ns.map .int) = some ns
  | [] => rfl
  | n :: ns => by simp [intsOf, intsOf_ints ns]
theorem boolsOf_bls : ∀ ns : List Bool, boolsOf (ns.map .bl) = some ns
  | [] => rfl
  | n :: ns => by simp [boolsOf, boolsOf_bls ns]
theorem strsOf_strs : ∀ ns : List (List Nat), strsOf (ns.map .str) = some ns
  | [] => rfl
  | n :: ns => by simp [strsOf, strsOf_strs ns]
theorem joinL_nil : ∀ ps : List (List Nat), joinL [] ps = ps.flatten
  | [] => rfl
  | [p] => by simp [joinL]
  | p :: q :: r => by
    show p ++ ([] ++ joinL [] (q :: r)) = _
    rw [joinL_nil (q :: r)]
    simp
theorem joinD_lst (ps : List (List Nat)) (h : (ps.map (·.length)).sum ≤ 16777216) : joinD [] [.lst (ps.map .str)] = some (.d (.str ps.flatten)) := by
  simp only [joinD, strsOf_strs]
  simp [joinL_nil, h]
theorem sumD_lst (ns : List Int) : sumD [.lst (ns.map .int)] = some (.d (.int ns.sum)) := by
  unfold sumD anyL
  simp [intsOf_ints]
theorem allD_lst (bs : List Bool) : allD [.lst (bs.map .bl)] = some (.d (.bl (bs.all id))) := by
  unfold allD
  simp [boolsOf_bls]
theorem anyD_lst (bs : List Bool) : anyD [.lst (bs.map .bl)] = some (.d (.bl (bs.any id))) := by
  unfold anyD
  simp [boolsOf_bls]
theorem minD_lst (n : Int) (ns : List Int) : minD [.lst ((n :: ns).map .int)] = some (.d (.int (minL n ns))) := by
  simp only [minD, intsOf_ints]
theorem maxD_lst (n : Int) (ns : List Int) : maxD [.lst ((n :: ns).map .int)] = some (.d (.int (maxL n ns))) := by
  simp only [maxD, intsOf_ints]
theorem atI_nat {α : Type} {l : List α} {n : Nat} (h : n < l.length) : atI l (n : Int) = some l[n] := by
  unfold atI ixN
  rw [if_pos (by omega), if_pos (by omega)]
  simp [h]
theorem atI_int {α : Type} {l : List α} {n : Int} (h0 : 0 ≤ n) (h : n < l.length) : atI l n = some (l[n.toNat]'(by omega)) := by
  unfold atI ixN
  rw [if_pos h0, if_pos h]
  have : n.toNat < l.length := by omega
  simp [this]
theorem ixN_nat {n m : Nat} (h : n < m) : ixN m (n : Int) = some n := by
  unfold ixN
  rw [if_pos (by omega), if_pos (by omega)]
  simp
@[simp] theorem atI_0 {α : Type} {x0 : α} {l : List α} : atI (x0 :: l) 0 = some x0 := by
  have := atI_nat (l := x0 :: l) (n := 0) (by simp)
  simpa using this
@[simp] theorem ixN_0 {n : Nat} (h : 0 < n) : ixN n 0 = some 0 := ixN_nat h
@[simp] theorem atI_1 {α : Type} {x0 x1 : α} {l : List α} : atI (x0 :: x1 :: l) 1 = some x1 := by
  have := atI_nat (l := x0 :: x1 :: l) (n := 1) (by simp)
  simpa using this
@[simp] theorem ixN_1 {n : Nat} (h : 1 < n) : ixN n 1 = some 1 := ixN_nat h
@[simp] theorem atI_2 {α : Type} {x0 x1 x2 : α} {l : List α} : atI (x0 :: x1 :: x2 :: l) 2 = some x2 := by
  have := atI_nat (l := x0 :: x1 :: x2 :: l) (n := 2) (by simp)
  simpa using this
@[simp] theorem ixN_2 {n : Nat} (h : 2 < n) : ixN n 2 = some 2 := ixN_nat h
@[simp] theorem atI_3 {α : Type} {x0 x1 x2 x3 : α} {l : List α} : atI (x0 :: x1 :: x2 :: x3 :: l) 3 = some x3 := by
  have := atI_nat (l := x0 :: x1 :: x2 :: x3 :: l) (n := 3) (by simp)
  simpa using this
@[simp] theorem ixN_3 {n : Nat} (h : 3 < n) : ixN n 3 = some 3 := ixN_nat h
@[simp] theorem atI_4 {α : Type} {x0 x1 x2 x3 x4 : α} {l : List α} : atI (x0 :: x1 :: x2 :: x3 :: x4 :: l) 4 = some x4 := by
  have := atI_nat (l := x0 :: x1 :: x2 :: x3 :: x4 :: l) (n := 4) (by simp)
  simpa using this
@[simp] theorem ixN_4 {n : Nat} (h : 4 < n) : ixN n 4 = some 4 := ixN_nat h
@[simp] theorem slD_str {lo hi : Option Int} {P : RV → Prop} : oq (slD (.str a) lo hi) P ↔ a.length ≤ 16777216 ∧ P (.d (.str (cutL a lo hi))) := by
  unfold slD
  simp
@[simp] theorem slD_lst {lo hi : Option Int} : slD (.lst xs) lo hi = some (.own (cutL xs lo hi)) := rfl
@[simp] theorem slD_scr {lo hi : Option Int} : slD (.scr xs) lo hi = some (.own (cutL xs lo hi)) := rfl
@[simp] theorem slD_tup {lo hi : Option Int} : slD (.tup xs) lo hi = some (.d (.tup (cutL xs lo hi))) := rfl
section
variable {α : Type} {l : List α}
theorem sIx_int {n d : Nat} {v : Int} (h : 0 ≤ v) : HT.sIx n d (some v) = min v.toNat n := by
  show (if v < 0 then (v + (n : Int)).toNat else min v.toNat n) = min v.toNat n
  rw [if_neg (by omega)]
theorem sIx_neg {n d : Nat} {v : Int} (h : v < 0) : HT.sIx n d (some v) = (v + (n : Int)).toNat := by
  show (if v < 0 then (v + (n : Int)).toNat else min v.toNat n) = _
  rw [if_pos h]
theorem cutL_to {v : Int} (h : 0 ≤ v) : cutL l none (some v) = l.take v.toNat := by
  unfold cutL
  rw [sIx_int h]
  show (l.drop 0).take (min v.toNat l.length - 0) = _
  rw [List.drop_zero, Nat.sub_zero, ← List.take_eq_take_min]
theorem cutL_from {v : Int} (h : 0 ≤ v) : cutL l (some v) none = l.drop v.toNat := by
  unfold cutL
  rw [sIx_int h]
  show (l.drop (min v.toNat l.length)).take (l.length - min v.toNat l.length) = _
  rw [List.take_of_length_le (by simp)]
  by_cases h1 : v.toNat ≤ l.length
  · rw [Nat.min_eq_left h1]
  · rw [Nat.min_eq_right (by omega), List.drop_of_length_le (Nat.le_refl _), List.drop_of_length_le (by omega)]
theorem cutL_both {u v : Int} (h1 : 0 ≤ u) (h2 : 0 ≤ v) : cutL l (some u) (some v) = (l.drop u.toNat).take (v.toNat - u.toNat) := by
  unfold cutL
  rw [sIx_int h1, sIx_int h2]
  by_cases h : u.toNat ≤ l.length
  · rw [Nat.min_eq_left h]
    by_cases h' : v.toNat ≤ l.length
    · rw [Nat.min_eq_left h']
    · rw [Nat.min_eq_right (by omega), List.take_of_length_le (by simp), List.take_of_length_le (by simp; omega)]
  · rw [Nat.min_eq_right (a := u.toNat) (by omega), List.drop_of_length_le (Nat.le_refl _), List.drop_of_length_le (by omega)]
    simp
theorem cutL_tail {u : Int} (h1 : u < 0) : cutL l (some u) none = l.drop (u + l.length).toNat := by
  unfold cutL
  rw [sIx_neg h1]
  show (l.drop _).take (l.length - _) = _
  rw [List.take_of_length_le (by simp)]
theorem cutL_init {u : Int} (h1 : u < 0) : cutL l none (some u) = l.take (u + l.length).toNat := by
  unfold cutL
  rw [sIx_neg h1]
  show (l.drop 0).take (_ - 0) = _
  rw [List.drop_zero, Nat.sub_zero]
theorem cutL_mid {u v : Int} (h1 : u < 0) (h2 : v < 0) : cutL l (some u) (some v) = (l.drop (u + l.length).toNat).take ((v + l.length).toNat - (u + l.length).toNat) := by
  unfold cutL
  rw [sIx_neg h1, sIx_neg h2]
end
theorem oks_map {α : Type} {f : α → D} (h : ∀ x, (f x).ok = true) : ∀ l : List α, oks (l.map f) = true
  | [] => rfl
  | x :: l => by simp [oks, h, oks_map h l]
theorem deps_map {α : Type} {f : α → D} (h : ∀ x, (f x).dep = 0) : ∀ l : List α, deps (l.map f) = 0
  | [] => rfl
  | x :: l => by simp [deps, h, deps_map h l]
theorem okD_ints (l : List Int) : okD (.lst (l.map .int)) = true := by
  have h1 := oks_map (f := D.int) (fun _ => rfl) l
  have h2 := deps_map (f := D.int) (fun _ => rfl) l
  simp [okD, D.ok, D.dep, h1, h2]
theorem range_at {α : Type} {f : Nat → α} {n i : Nat} {x : α} (h : (List.map f (List.range n))[i]? = some x) : i < n ∧ x = f i := by
  rw [List.getElem?_map] at h
  obtain ⟨y, h1, h2⟩ := Option.map_eq_some_iff.mp h
  obtain ⟨h3, h4⟩ := List.getElem?_eq_some_iff.mp h1
  simp at h3 h4
  exact ⟨h3, by rw [← h2, ← h4]⟩
theorem map_at {α β : Type} {f : α → β} {l : List α} {i : Nat} {x : β} (h : (List.map f l)[i]? = some x) : ∃ y, l[i]? = some y ∧ x = f y := by
  rw [List.getElem?_map] at h
  obtain ⟨y, h1, h2⟩ := Option.map_eq_some_iff.mp h
  exact ⟨y, h1, h2.symm⟩
theorem eqB_lst_nil (h : okD (.lst xs) = true) : eqB (.lst xs) (.lst []) = some xs.isEmpty := by
  have e : okD (.lst []) = true := by decide
  simp only [eqB, h, e]
  cases xs with
  | nil => rfl
  | cons x xs => rfl
theorem eqD_lst_nil (h : okD (.lst xs) = true) : eqD (.lst xs) (.lst []) = some (.d (.bl xs.isEmpty)) := by
  unfold eqD
  rw [eqB_lst_nil h]
  rfl
theorem neD_lst_nil (h : okD (.lst xs) = true) : neD (.lst xs) (.lst []) = some (.d (.bl (!xs.isEmpty))) := by
  unfold neD
  rw [eqB_lst_nil h]
  rfl
theorem okD_nats (l : List Nat) : okD (.lst (l.map fun (k : Nat) => .int (k : Int))) = true := by
  have h1 := oks_map (f := fun k : Nat => D.int (k : Int)) (fun _ => rfl) l
  have h2 := deps_map (f := fun k : Nat => D.int (k : Int)) (fun _ => rfl) l
  simp [okD, D.ok, D.dep, h1, h2]
theorem erase_map {α β : Type} {f : α → β} : ∀ (l : List α) (n : Nat), (l.map f).eraseIdx n = (l.eraseIdx n).map f
  | [], n => by simp
  | x :: l, 0 => by simp
  | x :: l, n + 1 => by simp [erase_map l n]
@[simp] theorem isiD_ap {T : String} {P : RV → Prop} : oq (isiD T [x, .ptr (.ty T)]) P ↔ oq (tyD x) fun A => oq (kitB A T) fun b => P (.d (.bl b)) := by
  unfold isiD
  simp
  cases tyD x <;> simp
@[simp] theorem tyD_non : tyD .non = some "NoneType" := rfl
@[simp] theorem tyD_bl : tyD (.bl c) = some "bool" := rfl
@[simp] theorem tyD_int : tyD (.int i) = some "int" := rfl
@[simp] theorem tyD_str : tyD (.str a) = some "str" := rfl
@[simp] theorem tyD_lst : tyD (.lst xs) = some "list" := rfl
@[simp] theorem tyD_tup : tyD (.tup xs) = some "tuple" := rfl
@[simp] theorem kit_NoneType_str : kitB "NoneType" "str" = some false := by decide +kernel
@[simp] theorem kit_NoneType_int : kitB "NoneType" "int" = some false := by decide +kernel
@[simp] theorem kit_NoneType_bool : kitB "NoneType" "bool" = some false := by decide +kernel
@[simp] theorem kit_NoneType_list : kitB "NoneType" "list" = some false := by decide +kernel
@[simp] theorem kit_NoneType_tuple : kitB "NoneType" "tuple" = some false := by decide +kernel
@[simp] theorem kit_NoneType_dict : kitB "NoneType" "dict" = some false := by decide +kernel
@[simp] theorem kit_bool_str : kitB "bool" "str" = some false := by decide +kernel
@[simp] theorem kit_bool_int : kitB "bool" "int" = some true := by decide +kernel
@[simp] theorem kit_bool_bool : kitB "bool" "bool" = some true := by decide +kernel
@[simp] theorem kit_bool_list : kitB "bool" "list" = some false := by decide +kernel
@[simp] theorem kit_bool_tuple : kitB "bool" "tuple" = some false := by decide +kernel
@[simp] theorem kit_bool_dict : kitB "bool" "dict" = some false := by decide +kernel
@[simp] theorem kit_int_str : kitB "int" "str" = some false := by decide +kernel
@[simp] theorem kit_int_int : kitB "int" "int" = some true := by decide +kernel
@[simp] theorem kit_int_bool : kitB "int" "bool" = some false := by decide +kernel
@[simp] theorem kit_int_list : kitB "int" "list" = some false := by decide +kernel
@[simp] theorem kit_int_tuple : kitB "int" "tuple" = some false := by decide +kernel
@[simp] theorem kit_int_dict : kitB "int" "dict" = some false := by decide +kernel
@[simp] theorem kit_str_str : kitB "str" "str" = some true := by decide +kernel
@[simp] theorem kit_str_int : kitB "str" "int" = some false := by decide +kernel
@[simp] theorem kit_str_bool : kitB "str" "bool" = some false := by decide +kernel
@[simp] theorem kit_str_list : kitB "str" "list" = some false := by decide +kernel
@[simp] theorem kit_str_tuple : kitB "str" "tuple" = some false := by decide +kernel
@[simp] theorem kit_str_dict : kitB "str" "dict" = some false := by decide +kernel
@[simp] theorem kit_list_str : kitB "list" "str" = some false := by decide +kernel
@[simp] theorem kit_list_int : kitB "list" "int" = some false := by decide +kernel
@[simp] theorem kit_list_bool : kitB "list" "bool" = some false := by decide +kernel
@[simp] theorem kit_list_list : kitB "list" "list" = some true := by decide +kernel
@[simp] theorem kit_list_tuple : kitB "list" "tuple" = some false := by decide +kernel
@[simp] theorem kit_list_dict : kitB "list" "dict" = some false := by decide +kernel
@[simp] theorem kit_tuple_str : kitB "tuple" "str" = some false := by decide +kernel
@[simp] theorem kit_tuple_int : kitB "tuple" "int" = some false := by decide +kernel
@[simp] theorem kit_tuple_bool : kitB "tuple" "bool" = some false := by decide +kernel
@[simp] theorem kit_tuple_list : kitB "tuple" "list" = some false := by decide +kernel
@[simp] theorem kit_tuple_tuple : kitB "tuple" "tuple" = some true := by decide +kernel
@[simp] theorem kit_tuple_dict : kitB "tuple" "dict" = some false := by decide +kernel
theorem cutL_one {α : Type} {l : List α} {k : Nat} (h : k < l.length) : cutL l (some (k : Int)) (some ((k : Int) + 1)) = [l[k]] := by
  rw [cutL_both (by omega) (by omega)]
  have e : ((k : Int) + 1).toNat - (k : Int).toNat = 1 := by omega
  rw [e, Int.toNat_natCast, List.drop_eq_getElem_cons h]
  rfl
@[simp] theorem noOwn_nil {ρ : Sl} : noOwn ρ [] = true := rfl
@[simp] theorem noOwn_cons {ρ : Sl} {v : Nat} {vs : List Nat} : noOwn ρ (v :: vs) = ((match ρ[v]? with
  | some (some (.own _ _)) => false
  | _ => true) && noOwn ρ vs) := rfl
@[simp] theorem wipeS_nil {ρ : Sl} : wipeS ρ [] = ρ := rfl
@[simp] theorem wipeS_cons {ρ : Sl} {v : Nat} {vs : List Nat} : wipeS ρ (v :: vs) = (wipeS ρ vs).set v none := rfl
@[simp] theorem restS_nil {ρ ρ' : Sl} : restS ρ ρ' [] = ρ' := rfl
@[simp] theorem restS_cons {ρ ρ' : Sl} {v : Nat} {vs : List Nat} : restS ρ ρ' (v :: vs) = (restS ρ ρ' vs).set v (ρ.getD v none) := rfl
@[simp] theorem eqD_nils : eqD (.lst []) (.lst []) = some (.d (.bl true)) := eqD_lst_nil (by decide)
@[simp] theorem neD_nils : neD (.lst []) (.lst []) = some (.d (.bl false)) := neD_lst_nil (by decide)
theorem wC_none {ρ : Sl} {vs : List Nat} {bind : Bx} {cd : Tx} {fe : Ex} {QC : List D → Sl → Prop} (hs : ∀ x ∈ xs, oq (bind x ρ) fun ρ1 => wT cd ρ1 fun b ρ2 => b = false ∧ wipeS ρ2 vs = ρ) (he : QC [] ρ) (hl : xs.length ≤ 16777216) : wC vs bind cd fe xs [] ρ QC := by
  have e0 : xs.filter (fun _ => false) = [] := List.filter_eq_nil_iff.mpr (by simp)
  refine wC_map (fun _ => false) id hl (fun x hx => ?_) (by rw [e0]; exact he)
  have := hs x hx
  obtain ⟨ρ1, e, h⟩ := oq_iff.mp this
  rw [e]
  refine okQ.imp h fun b ρ2 q => ?_
  obtain ⟨rfl, q⟩ := q
  exact ⟨rfl, q⟩
theorem mem_range_map {α : Type} {f : Nat → α} {n : Nat} {x : α} (h : x ∈ (List.range n).map f) : ∃ k, k < n ∧ x = f k := by
  obtain ⟨k, h1, h2⟩ := List.mem_map.mp h
  exact ⟨k, List.mem_range.mp h1, h2.symm⟩
theorem okD_map {α : Type} {f : α → D} (h : ∀ x, (f x).ok = true) (h' : ∀ x, (f x).dep = 0) (l : List α) : okD (.lst (l.map f)) = true := by
  have h1 := oks_map h l
  have h2 := deps_map h' l
  simp [okD, D.ok, D.dep, h1, h2]
theorem eqD_tup_nil (h : okD (.tup xs) = true) : eqD (.tup xs) (.tup []) = some (.d (.bl xs.isEmpty)) := by
  have e : okD (.tup []) = true := by decide
  simp only [eqD, eqB, h, e]
  cases xs with
  | nil => rfl
  | cons x xs => rfl
theorem oks_all : ∀ {l : List D}, (∀ x ∈ l, x.ok = true) → oks l = true
  | [], _ => rfl
  | x :: l, h => by simp [oks, h x, oks_all (l := l) fun y hy => h y (by simp [hy])]
theorem deps_all : ∀ {l : List D}, (∀ x ∈ l, x.dep = 0) → deps l = 0
  | [], _ => rfl
  | x :: l, h => by simp [deps, h x, deps_all (l := l) fun y hy => h y (by simp [hy])]
theorem okD_tup_strs {l : List (List Nat)} (h : ∀ u ∈ l, ∀ c ∈ u, c < 1114112) : okD (.tup (l.map .str)) = true := by
  have h1 : oks (l.map .str) = true := oks_all fun x hx => by
    obtain ⟨u, hu, rfl⟩ := List.mem_map.mp hx
    simp [D.ok]
    exact h u hu
  have h2 : deps (l.map .str) = 0 := deps_all fun x hx => by
    obtain ⟨u, hu, rfl⟩ := List.mem_map.mp hx
    rfl
  simp [okD, D.ok, D.dep, h1, h2]
theorem okD_lst_strs {l : List (List Nat)} (h : ∀ u ∈ l, ∀ c ∈ u, c < 1114112) : okD (.lst (l.map .str)) = true := by
  have h1 : oks (l.map .str) = true := oks_all fun x hx => by
    obtain ⟨u, hu, rfl⟩ := List.mem_map.mp hx
    simp [D.ok]
    exact h u hu
  have h2 : deps (l.map .str) = 0 := deps_all fun x hx => by
    obtain ⟨u, hu, rfl⟩ := List.mem_map.mp hx
    rfl
  simp [okD, D.ok, D.dep, h1, h2]
end
end M
namespace M
open PySem PySem.Spec PyProof.Rows L2 TL
def wB (f : Ib) (ρ : Sl) (fs : List (Str × D)) (Q : Fl → Sl → List (Str × D) → Prop) (_ : Dep Q := .mk) : Prop := match f ρ fs with
  | some (fl, ρ', fs') => Q fl ρ' fs'
  | none => False
def isNx (fl : Fl) (P : Prop) (_ : Dep P := .mk) : Prop := match fl with | .nx => P | _ => False
@[simp ↓] theorem isNx_nx {P : Prop} : isNx .nx P ↔ P := Iff.rfl
section
variable {ρ : Sl} {fs : List (Str × D)} {QB : Fl → Sl → List (Str × D) → Prop} {f : Sx} {g : Ib} {fe : Ex} {o : Addr} {n : Str}
@[simp ↓] theorem wB_nil : wB iNil ρ fs QB ↔ QB .nx ρ fs := Iff.rfl
@[simp ↓] theorem wB_st : wB (iSt f g) ρ fs QB ↔ wS f ρ fun fl ρ1 => isNx fl (wB g ρ1 fs QB) := by
  unfold wB wS iSt
  rcases f ρ with _ | ⟨fl, ρ1⟩
  · simp
  cases fl <;> simp [isNx]
@[simp ↓] theorem wB_fld : wB (iFld o n fe g) ρ fs QB ↔ wE (bFz fe) ρ fun r ρ1 => isD' r fun d => (fs.length < 1000 ∧ selfAt ρ1 o = true) ∧ wB g ρ1 (putD n d fs) QB := by
  unfold wB wE iFld
  rcases bFz fe ρ with _ | ⟨r, ρ1⟩
  · simp
  cases r with
  | own x => simp
  | bor x => simp
  | d d =>
    simp only [okQ_some, isD'_d]
    by_cases h : fs.length < 1000 ∧ selfAt ρ1 o = true
    · rw [if_pos h]; simp [h]
    · rw [if_neg h]; simp only [false_iff]; exact fun z => h z.1
theorem runI_of {B : Ib} {k : Nat} {ds : List D} {r : List (Str × D)} (h : wB B ((some (.d (.ptr (.ref o))) :: ds.map fun d => some (.d d)) ++ List.replicate (k - (ds.length + 1)) none) [] fun fl _ fs => fl = .nx ∧ fs = r) : runI k B o ds = some r := by
  unfold runI
  unfold wB at h
  split at h
  · rename_i e
    obtain ⟨rfl, rfl⟩ := h
    rw [e]
  · exact h.elim
@[simp] theorem selfAt_ap : selfAt (some (.d (.ptr (.ref o))) :: ρ) o = true := by
  simp [selfAt]
end
end M
namespace M
open PySem PySem.Spec PyProof.Rows L2 TL
abbrev Hd1 := Value × Option Nat × (Addr → Value → Option Addr → TS)
def dropEnds (i : Nat) (D : Ends) : Ends := { nx := fun τ G => D.nx (τ.set i none) G, rt := D.rt, bk := fun τ G => D.bk (τ.set i none) G, ct := fun τ G => D.ct (τ.set i none) G }
def inSuite (oi : Option Nat) (ts : Addr → Value → Option Addr → TS) (a : Addr) (cls : Value) (d : Option Addr) (D : Ends) (τ : L2.St) (G : Hp) : Prop := match oi with
  | none => ts a cls d D τ G
  | some i => ts a cls d (dropEnds i D) (τ.set i (some (.ref a))) G
def wMix (K : PySem.W.Frag) (Wo : WX) (D : Ends) : List Hd1 → WX
  | [] => Wo
  | (c, oi, ts) :: r => fun cls d τ G => ∃ b, PySem.W.exmOne K cls c = some b ∧ (b = true → ∀ a, G a = none → inSuite oi ts a cls d D τ G) ∧ (b = false → wMix K Wo D r cls d τ G)
inductive HdsMix (X : Cx) : List ExceptHandler → List Hd1 → Prop
  | nil : HdsMix X [] []
  | plain {x : Str} {c : Value} {ts : Addr → Value → Option Addr → TS} {b₀ : Stmt} {rest : List Stmt} {p1 p2 : Pos} {hds : List ExceptHandler} {l : List Hd1} (hc : Names X x c)
      (hsu : ∀ (a : Addr) (oe : Obj) (cls : Value) (d : Option Addr) (pn : List (Addr × Obj)), Zc cls d oe → (∃ vs, oe.data = .fields vs) → PSs (X.suite a ((a, oe) :: pn)) (b₀ :: rest) (ts a cls d)) (r : HdsMix X hds l) :
      HdsMix X (.ExceptHandler (some (.Name x p1)) none (b₀ :: rest) p2 :: hds) ((c, none, ts) :: l)
  | named {x n : Str} {c : Value} {i : Nat} {ts : Addr → Value → Option Addr → TS} {b₀ : Stmt} {rest : List Stmt} {p1 p2 : Pos} {hds : List ExceptHandler} {l : List Hd1} (hc : Names X x c) (hi : X.N[i]? = some n) (hln : X.env.kindOf n = some .local)
      (hsu : ∀ (a : Addr) (oe : Obj) (cls : Value) (d : Option Addr) (pn : List (Addr × Obj)), Zc cls d oe → (∃ vs, oe.data = .fields vs) → PSs (X.suite a ((a, oe) :: pn)) (b₀ :: rest) (ts a cls d)) (r : HdsMix X hds l) :
      HdsMix X (.ExceptHandler (some (.Name x p1)) (some n) (b₀ :: rest) p2 :: hds) ((c, some i, ts) :: l)
section
variable {X : Cx} {body : List Stmt} {h₀ : ExceptHandler} {hds : List ExceptHandler} {l : List Hd1} {pos : Pos} {tb : WX → TS} {Wo : WX}
theorem ps_try_mix (hs : X.stack = X.env :: X.outer) (hf : X.env.frame = some X.env.locals) (hN : X.N.Nodup) (tk : Takes X Wo)
    (hb : ∀ (W : WX) (pn : List (Addr × Obj)) (xe : Value → Shared → Prop), Takes (X.tr pn xe) W → PassesOwn (model X.prog X.w) X.A X.env xe → PSs (X.tr pn xe) body (tb W))
    (hh : HdsMix X (h₀ :: hds) l) : PS X (.Try body (h₀ :: hds) [] [] pos) (fun D τ G => tb (wMix X.K Wo D l) D τ G) := by
  refine ⟨fun pins s0 τ0 G0 D I0 q0 => ?_⟩
  have okI := I0.ok
  have frs0 : X.A.frames = some (X.env :: X.outer) := by rw [okI.frames, hs]
  refine wpAny_Try_except (wpAny_mono ((hb (wMix X.K Wo D l) (X.pn ++ pins)
    (fun e s₁ => wpAny (model X.prog X.w) X.A (noteFrame e X.env)
      (fun _ s₂ => wpAny (model X.prog X.w) X.A (setFlight e none)
        (fun _ s₃ => wpAny (model X.prog X.w) X.A (handleBy e X.env (h₀ :: hds)) (SP X pins D) X.xe s₃) X.xe s₂) X.xe s₁)
    (fun u s' xx => ?_) PassesOwn.looking).run [] s0 τ0 G0 D (I0.toTry _) q0) (fun f s1 hsp => ?_) (fun e s1 he => he))
  · obtain ⟨a, B, sI, pins', τ, G, cls, d, rfl, I1, nb, up, sky, na, os, ag, w⟩ := xx
    have J : Inv X pins τ G sI := I1.ofTry okI
    rw [hs] at sky
    show wpAny (model X.prog X.w) X.A (noteFrame (.ref a) X.env) _ _ _
    refine Sky.land Zc.steady frs0 hf sky fun hA flA upA => ?_
    have JA : Inv X pins τ G { s' with heap := hA } := J.landed nb flA.1 (up.trans upA) os ag
    obtain ⟨oA, vA, gA, zA, dA⟩ := flA.there
    have outF : ∀ {h : Heap} {o : Obj} {vs : Array Value}, h.FunFrames B (X.env :: X.outer) → h.get? a = some o → o.data = .fields vs → a ∉ frs (X.env :: X.outer) := by
      intro h o vs ff e dd hm
      obtain ⟨_, o2, e2, hnf⟩ := ff.mem hm
      rw [e] at e2; cases e2; exact hnf _ dd
    have nfr := outF flA.2.2.1 gA dA
    have nL : a ≠ X.env.locals := by
      intro z; exact nfr (List.mem_filterMap.mpr ⟨X.env, List.mem_cons_self, by rw [hf, z]⟩)
    have nF : a ∉ X.fs := by
      intro hm
      obtain ⟨e, he, q⟩ := List.mem_filterMap.mp hm
      exact nfr (List.mem_filterMap.mpr ⟨e, List.mem_cons_of_mem _ he, q⟩)
    have SA := JA.suite gA dA na nL nF
    have look : PySem.W.Looks (model X.prog X.w) hA (typeOf (.ref a)) cls := by
      intro A Q E s k q; exact wpAny_typeOf_ref (k _ _ gA) (by rw [zA.1]; exact q)
    have nameOk : ∀ {x : Str} {c : Value} {p1 : Pos}, Names X x c → ∀ {Q : Value → Shared → Prop} {E : Value → Shared → Prop}, Q c { s' with heap := hA } →
        wpAny (model X.prog X.w) (X.A.mark (some (.ref a))) (eval (.Name x p1) X.env) Q E { s' with heap := hA } := by
      intro x c p1 hc Q E q
      obtain ⟨hg, hdbg, hm | ⟨hm, hv, hnn⟩⟩ := hc
      · exact ld_glob (X := X.suite a ((a, oA) :: (X.pn ++ pins))) SA hg hm q hdbg
      · exact ld_blt (X := X.suite a ((a, oA) :: (X.pn ++ pins))) SA hg hm hv q hnn hdbg
    have go : ∀ {hs' : List ExceptHandler} {l' : List Hd1}, HdsMix X hs' l' → wMix X.K Wo D l' cls d τ G →
        wpAny (model X.prog X.w) X.A (handleBy (.ref a) X.env hs') (SP X pins D) X.xe { s' with heap := hA } := by
      intro hs' l' hk
      induction hk with
      | nil =>
        intro w
        refine wpAny_handleBy_nil ?_
        obtain ⟨k1, k2, k3, oe, vs, T, oT, tt, he, hz, hd, h1, hr⟩ := id flA
        unfold PySem.passOn
        refine wpAny_bind (wpAny_field he hd h1 ?_)
        rw [if_neg (show ¬ ((Value.ref T == Value.none) = true) by simp)]
        have fin : wpAny (model X.prog X.w) X.A (setFlight (.ref a) X.env.frame)
            (fun _ s4 => wpAny (model X.prog X.w) X.A (throw (.ref a) : Sem Flow) (SP X pins D) X.xe s4) X.xe { s' with heap := hA } := by
          rw [hf]
          refine HandSPX.setFlight_upZ flA fun hB hhB upB => wpAny_throw (tk _ _ ?_)
          refine ⟨a, B, sI, pins, τ, G, cls, d, rfl, J, nb, (up.trans upA).trans upB, ?_, na, os, ag, w⟩
          exact .inr (.inr (by rw [hs]; exact hhB))
        first | exact wpAny_bind (wpAny_pure (wpAny_bind fin)) | exact wpAny_bind fin
      | plain hc hsu r ih =>
        intro w
        obtain ⟨b, hb1, hyes, hno⟩ := w
        refine wpAny_handleBy_cons (codeAny_handlers_test ?_) (by intro q; cases q)
        refine nameOk hc ((PySem.W.exm_one (M := model X.prog X.w) (JA.kIn) look hb1).here ?_)
        cases b with
        | false => exact ih (hno rfl)
        | true =>
          refine codeAny_handlers_suite (HandSPX.lands_againZ flA fun hB flB upB => ?_)
          have JB : Inv X pins τ G { s' with heap := hB } := J.landed nb flB.1 ((up.trans upA).trans upB) os ag
          obtain ⟨oB, vB, gB, zB, dB⟩ := flB.there
          refine wpAny_mono ((hsu a oB cls d (X.pn ++ pins) zB ⟨_, dB⟩).run [] _ _ G _ (JB.suite gB dB na nL nF) (hyes rfl a na)) (fun f s6 hsp => ?_) (fun _ _ z => z.elim)
          cases f with
          | next => obtain ⟨τ6, G6, S6, q6⟩ := hsp; exact ⟨_, _, S6.unsuite okI, q6⟩
          | brk => obtain ⟨τ6, G6, S6, q6⟩ := hsp; exact ⟨_, _, S6.unsuite okI, q6⟩
          | cont => obtain ⟨τ6, G6, S6, q6⟩ := hsp; exact ⟨_, _, S6.unsuite okI, q6⟩
          | ret u => obtain ⟨v6, τ6, G6, S6, r6, q6⟩ := hsp; exact ⟨_, _, _, S6.unsuite okI, r6, q6⟩
      | @named x n c i ts b₀ rest p1 p2 hds2 l2 hc hi hln hsu r ih =>
        intro w
        obtain ⟨b, hb1, hyes, hno⟩ := w
        refine wpAny_handleBy_cons (codeAny_handlers_test ?_) (by intro q; cases q)
        refine nameOk hc ((PySem.W.exm_one (M := model X.prog X.w) (JA.kIn) look hb1).here ?_)
        cases b with
        | false => exact ih (hno rfl)
        | true =>
          have hloc : Loc X.env.scope n := .inl hln
          refine codeAny_handlers_suite_as (HandSPX.lands_againZ flA fun hB flB upB => ?_)
          have JB : Inv X pins τ G { s' with heap := hB } := J.landed nb flB.1 ((up.trans upA).trans upB) os ag
          obtain ⟨oB, vB, gB, zB, dB⟩ := flB.there
          refine store_ok (X := X.suite a ((a, oB) :: (X.pn ++ pins))) (v := .ref a) (JB.suite gB dB na nL nF) hN hi hloc rfl (fun s5 S5 => ?_) (.inr hln)
          refine wpAny_mono ((hsu a oB cls d (X.pn ++ pins) zB ⟨_, dB⟩).run [] s5 _ G _ S5 (hyes rfl a na)) (fun f s6 hsp => ?_) (fun _ _ z => z.elim)
          have gone : ∀ {τ6 : L2.St} {G6 : Hp} {Q : Shared → Prop}, Inv (X.suite a ((a, oB) :: (X.pn ++ pins))) [] τ6 G6 s6 → (∀ s7, Inv X pins (τ6.set i none) G6 s7 → Q s7) →
              wpAny (model X.prog X.w) X.A (do bindName X.env n .none; unbindBehindTheSuite X.env n p2) (fun _ s7 => Q s7) X.xe s6 := by
            intro τ6 G6 Q S6 hq; exact gone_ok (S6.unsuite okI) hN hi hln hq
          cases f with
          | next => obtain ⟨τ6, G6, S6, q6⟩ := hsp; exact gone S6 fun s7 J7 => ⟨_, _, J7, q6⟩
          | brk => obtain ⟨τ6, G6, S6, q6⟩ := hsp; exact gone S6 fun s7 J7 => ⟨_, _, J7, q6⟩
          | cont => obtain ⟨τ6, G6, S6, q6⟩ := hsp; exact gone S6 fun s7 J7 => ⟨_, _, J7, q6⟩
          | ret u => obtain ⟨v6, τ6, G6, S6, r6, q6⟩ := hsp; exact gone S6 fun s7 J7 => ⟨_, _, _, J7, r6, q6⟩
    exact go hh w
  · cases f with
    | next => obtain ⟨τ', G', J', q⟩ := hsp; exact wpAny_execs_nil ⟨τ', G', J'.ofTry okI, q⟩
    | brk => obtain ⟨τ', G', J', q⟩ := hsp; exact ⟨τ', G', J'.ofTry okI, q⟩
    | cont => obtain ⟨τ', G', J', q⟩ := hsp; exact ⟨τ', G', J'.ofTry okI, q⟩
    | ret u => obtain ⟨v, τ', G', J', r, q⟩ := hsp; exact ⟨v, τ', G', J'.ofTry okI, r, q⟩
end
end M
namespace M
open PySem PySem.Spec PyProof.Rows L2 TL
inductive CO where
  | lst (xs : List D) | dct (kvs : List (L2.Key × D))
abbrev Ck := List (Addr × CO)
def coOk (K : PySem.W.Frag) (G : Hp) : CO → HO → Prop
  | .lst xs, o => ∃ vs, o = .lst vs ∧ RDs K G xs vs
  | .dct kvs, o => ∃ ws, o = .dK ws ∧ ws.map (·.1) = kvs.map (·.1) ∧ RDs K G (kvs.map (·.2)) (ws.map (·.2))
structure CellsOk (K : PySem.W.Frag) (G hk : Hp) (κ : Ck) : Prop where
  at_ : ∀ p c, (p, c) ∈ κ → ∃ o, hk p = some o ∧ coOk K G c o
  only : ∀ p o, hk p = some o → ∃ c, (p, c) ∈ κ
theorem coOk.mono {K : PySem.W.Frag} {G G' : Hp} (s : Same G G') : ∀ {c : CO} {o : HO}, coOk K G c o → coOk K G' c o
  | .lst xs, o, ⟨vs, e, r⟩ => ⟨vs, e, RDs.mono s _ _ r⟩
  | .dct kvs, o, ⟨ws, e, h, r⟩ => ⟨ws, e, h, RDs.mono s _ _ r⟩
theorem CellsOk.mono {K : PySem.W.Frag} {G G' hk : Hp} {κ : Ck} (h : CellsOk K G hk κ) (s : Same G G') : CellsOk K G' hk κ :=
  ⟨fun p c m => by obtain ⟨o, e, r⟩ := h.at_ p c m; exact ⟨o, e, r.mono s⟩, h.only⟩
def ln (F : Fm) (hk : Hp) : Fm := ⟨fun b => match hk b with | some o => some o | none => F.hp b, F.par⟩
def Dis (F : Fm) (hk : Hp) : Prop := ∀ p o, hk p = some o → F.hp p = none
structure RepN (K : PySem.W.Frag) (F : Fm) (G H : Hp) (σ : Sg) (ρ : Sl) (κ : Ck) (hk : Hp) : Prop where
  cl : CellsOk K G hk κ
  ds : Dis F hk
  rp : Rep K (ln F hk) G H σ ρ
structure Er where
  c : Str
  ns : List Str
  xs : List D
def ErV (K : PySem.W.Frag) (mg : Str → Option Value) (G : Hp) (e : Er) (cls : Value) (d : Option Addr) : Prop := (∃ C, mg e.c = some (.ref C) ∧ cls = .ref C) ∧
  (e.ns = [] ∨ ∃ (dd : Addr) (us : List V), d = some dd ∧ G dd = some (.xd (e.ns.zip us)) ∧ us.length = e.ns.length ∧ RDs K G e.xs us)
abbrev Nx (α : Type) := Sl → Ck → (α → Sl → Ck → Prop) → (Er → Sl → Ck → Prop) → Prop
abbrev NE := Nx RV
abbrev NT := Nx Bool
abbrev NA := Nx (List RV)
abbrev NS := Nx Fl
def erK (K : PySem.W.Frag) (mg : Str → Option Value) (W : WX) (F : Fm) (G : Hp) (σ : Sg) : Er → Sl → Ck → Prop := fun e ρ' κ' => ∀ G' H' hk' cls d, Same G G' → RepN K F G' H' σ ρ' κ' hk' → ErV K mg G' e cls d → W cls d σ H'
def nE (K : PySem.W.Frag) (mg : Str → Option Value) (W : WX) (f : NE) : TE := fun σ H Q => ∃ F G ρ κ hk, RepN K F G H σ ρ κ hk ∧ f ρ κ (fun r ρ' κ' => ∀ v G' H' hk', Same G G' → RepN K F G' H' σ ρ' κ' hk' → RR K (ln F hk') G' H' σ ρ' r v → Q v H') (erK K mg W F G σ)
def nT (K : PySem.W.Frag) (mg : Str → Option Value) (W : WX) (f : NT) : TT := fun σ H Q => ∃ F G ρ κ hk, RepN K F G H σ ρ κ hk ∧ f ρ κ (fun b ρ' κ' => ∀ G' H' hk', Same G G' → RepN K F G' H' σ ρ' κ' hk' → Q b H') (erK K mg W F G σ)
def erS (K : PySem.W.Frag) (mg : Str → Option Value) (W : WX) (F : Fm) (G : Hp) : Er → Sl → Ck → Prop := fun e ρ' κ' => ∀ σ' G' H' hk' cls d, Same G G' → RepN K F G' H' σ' ρ' κ' hk' → ErV K mg G' e cls d → W cls d σ' H'
def nS (K : PySem.W.Frag) (mg : Str → Option Value) (W : WX) (f : NS) : TS := fun D σ H => ∃ F G ρ κ hk, RepN K F G H σ ρ κ hk ∧ f ρ κ (fun fl ρ' κ' => ∀ σ' G' H' hk', Same G G' → RepN K F G' H' σ' ρ' κ' hk' → FQ K (ln F hk') D fl G' H' σ' ρ') (erS K mg W F G)
def PEn (X : Cx) (W : WX) (e : Expr) (f : NE) : Prop := PE X e (nE X.K X.mg W f)
def PTn (X : Cx) (W : WX) (e : Expr) (f : NT) : Prop := PT X e (nT X.K X.mg W f)
def PSn (X : Cx) (W : WX) (st : Stmt) (f : NS) : Prop := PS X st (nS X.K X.mg W f)
def PBn (X : Cx) (W : WX) (st : List Stmt) (f : NS) : Prop := PSs X st (nS X.K X.mg W f)
def up {α : Type} (f : Sl → Option (α × Sl)) : Nx α := fun ρ κ Q _ => okQ (f ρ) fun r ρ' => Q r ρ' κ
section
variable {X : Cx} {W : WX} {e : Expr} {st : Stmt} {sts : List Stmt} {f : Ex} {t : Tx} {s : Sx}
theorem en_up (h : PEv X e f) : PEn X W e (up f) := PE.imp h fun σ H Q q => by
  obtain ⟨F, G, ρ, κ, hk, R, q⟩ := q
  obtain ⟨r, ρ', e1, k⟩ := okQ.ex q
  exact ⟨ln F hk, G, ρ, r, ρ', R.rp, e1, fun v G' H' s R' r' => k v G' H' hk s ⟨R.cl.mono s, R.ds, R'⟩ r'⟩
theorem tn_up (h : PTv X e t) : PTn X W e (up t) := PT.imp h fun σ H Q q => by
  obtain ⟨F, G, ρ, κ, hk, R, q⟩ := q
  obtain ⟨r, ρ', e1, k⟩ := okQ.ex q
  exact ⟨ln F hk, G, ρ, r, ρ', R.rp, e1, fun G' H' s R' => k G' H' hk s ⟨R.cl.mono s, R.ds, R'⟩⟩
theorem sn_up (h : PSv X st s) : PSn X W st (up s) := PS.imp h fun D σ H q => by
  obtain ⟨F, G, ρ, κ, hk, R, q⟩ := q
  obtain ⟨fl, ρ', e1, k⟩ := okQ.ex q
  exact ⟨ln F hk, G, ρ, fl, ρ', R.rp, e1, fun σ' G' H' s R' => k σ' G' H' hk s ⟨R.cl.mono s, R.ds, R'⟩⟩
theorem bn_up (h : PBv X sts s) : PBn X W sts (up s) := PSs.imp h fun D σ H q => by
  obtain ⟨F, G, ρ, κ, hk, R, q⟩ := q
  obtain ⟨fl, ρ', e1, k⟩ := okQ.ex q
  exact ⟨ln F hk, G, ρ, fl, ρ', R.rp, e1, fun σ' G' H' s R' => k σ' G' H' hk s ⟨R.cl.mono s, R.ds, R'⟩⟩
theorem sv_try {body : List Stmt} {h₀ : ExceptHandler} {hs : List ExceptHandler} {pos : Pos} (h : PBv X.nox body s) : PSv X (.Try body (h₀ :: hs) [] [] pos) s := ps_try_thru0 h
end
end M
namespace M
open PySem PySem.Spec PyProof.Rows L2 TL
def Mono {α : Type} (f : Nx α) : Prop := ∀ ρ κ (Q Q' : α → Sl → Ck → Prop) (E E' : Er → Sl → Ck → Prop), (∀ r ρ' κ', Q r ρ' κ' → Q' r ρ' κ') → (∀ e ρ' κ', E e ρ' κ' → E' e ρ' κ') → f ρ κ Q E → f ρ κ Q' E'
theorem mono_up {α : Type} {f : Sl → Option (α × Sl)} : Mono (up f) := fun ρ κ Q Q' E E' hq _ h => okQ.imp h fun r ρ' q => hq r ρ' κ q
def nSeq (f g : NS) : NS := fun ρ κ Q E => f ρ κ (fun fl ρ1 κ1 => match fl with
  | .nx => g ρ1 κ1 Q E
  | o => Q o ρ1 κ1) E
def nBind {α β : Type} (f : Nx α) (g : α → Nx β) : Nx β := fun ρ κ Q E => f ρ κ (fun r ρ1 κ1 => g r ρ1 κ1 Q E) E
theorem mono_seq {f g : NS} (hf : Mono f) (hg : Mono g) : Mono (nSeq f g) := fun ρ κ Q Q' E E' hq he h => hf ρ κ _ _ E E' (fun fl ρ1 κ1 q => by
  cases fl with
  | nx => exact hg ρ1 κ1 Q Q' E E' hq he q
  | bk => exact hq _ _ _ q
  | ct => exact hq _ _ _ q
  | rt r => exact hq _ _ _ q) he h
theorem mono_bind {α β : Type} {f : Nx α} {g : α → Nx β} (hf : Mono f) (hg : ∀ a, Mono (g a)) : Mono (nBind f g) := fun ρ κ Q Q' E E' hq he h => hf ρ κ _ _ E E' (fun r ρ1 κ1 q => hg r ρ1 κ1 Q Q' E E' hq he q) he h
theorem erK.mono {K : PySem.W.Frag} {mg : Str → Option Value} {W : WX} {F : Fm} {G G1 : Hp} {σ : Sg} {e : Er} {ρ : Sl} {κ : Ck} (s : Same G G1) (h : erK K mg W F G σ e ρ κ) : erK K mg W F G1 σ e ρ κ := fun G' H' hk' cls d s1 R v => h G' H' hk' cls d (s.trans s1) R v
theorem erS.mono {K : PySem.W.Frag} {mg : Str → Option Value} {W : WX} {F : Fm} {G G1 : Hp} {e : Er} {ρ : Sl} {κ : Ck} (s : Same G G1) (h : erS K mg W F G e ρ κ) : erS K mg W F G1 e ρ κ := fun σ' G' H' hk' cls d s1 R v => h σ' G' H' hk' cls d (s.trans s1) R v
section
variable {X : Cx} {W : WX} {a b c e : Expr} {st : Stmt} {sts : List Stmt} {f g : NS} {fa fb : NE} {t : NT} {pos : Pos}
theorem bn_nil : PBn X W [] (up sNx) := bn_up bv_nil
theorem bn_cons (mf : Mono f) (mg : Mono g) (h : PSn X W st f) (hr : PBn X W sts g) : PBn X W (st :: sts) (nSeq f g) := PSs.imp (pss_cons h hr) fun D σ H q => by
  obtain ⟨F, G, ρ, κ, hk, R, q⟩ := q
  refine ⟨F, G, ρ, κ, hk, R, mf _ _ _ _ _ _ (fun fl ρ1 κ1 q => ?_) (fun _ _ _ z => z) q⟩
  intro σ1 G1 H1 hk1 s1 R1
  cases fl with
  | nx =>
    refine ⟨F, G1, ρ1, κ1, hk1, R1, ?_⟩
    exact mg _ _ _ _ _ _ (fun fl ρ' κ' z σ' G' H' hk' s' R' => z σ' G' H' hk' (s1.trans s') R') (fun _ _ _ z => erS.mono s1 z) q
  | bk => exact q σ1 G1 H1 hk1 s1 R1
  | ct => exact q σ1 G1 H1 hk1 s1 R1
  | rt r => exact q σ1 G1 H1 hk1 s1 R1
theorem bn_one (h : PSn X W st f) (mf : Mono f) : PBn X W [st] f := PSs.imp (pss_one h) fun D σ H q => q
def nIf (t : NT) (f g : NS) : NS := nBind t fun b => if b then f else g
theorem mono_if (mt : Mono t) (mf : Mono f) (mg : Mono g) : Mono (nIf t f g) := mono_bind mt fun b => by cases b <;> assumption
theorem sn_if {bd or' : List Stmt} (mt : Mono t) (mf : Mono f) (mg : Mono g) (ht : PTn X W a t) (hf : PBn X W bd f) (hg : PBn X W or' g) : PSn X W (.If a bd or' pos) (nIf t f g) := PS.imp (ps_if ht hf hg) fun D σ H q => by
  obtain ⟨F, G, ρ, κ, hk, R, q⟩ := q
  refine ⟨F, G, ρ, κ, hk, R, mt _ _ _ _ _ _ (fun b ρ1 κ1 q => ?_) (fun e ρ' κ' z => ?_) q⟩
  · intro G1 H1 hk1 s1 R1
    cases b with
    | true => exact ⟨F, G1, ρ1, κ1, hk1, R1, mf _ _ _ _ _ _ (fun fl ρ' κ' z σ' G' H' hk' s' R' => z σ' G' H' hk' (s1.trans s') R') (fun _ _ _ z => erS.mono s1 z) q⟩
    | false => exact ⟨F, G1, ρ1, κ1, hk1, R1, mg _ _ _ _ _ _ (fun fl ρ' κ' z σ' G' H' hk' s' R' => z σ' G' H' hk' (s1.trans s') R') (fun _ _ _ z => erS.mono s1 z) q⟩
  · exact fun G' H' hk' cls d s' R' v => z σ G' H' hk' cls d s' R' v
def nRet (f : NE) : NS := nBind f fun r ρ κ Q _ => Q (.rt r) ρ κ
theorem mono_ret (mf : Mono fa) : Mono (nRet fa) := mono_bind mf fun r ρ κ Q Q' E E' hq _ h => hq _ _ _ h
theorem sn_ret (mf : Mono fa) (h : PEn X W a fa) : PSn X W (.Return (some a) pos) (nRet fa) := PS.imp (ps_ret h) fun D σ H q => by
  obtain ⟨F, G, ρ, κ, hk, R, q⟩ := q
  refine ⟨F, G, ρ, κ, hk, R, mf _ _ _ _ _ _ (fun r ρ1 κ1 q => ?_) (fun e ρ' κ' z => ?_) q⟩
  · exact fun v G1 H1 hk1 s1 R1 r1 => q σ G1 H1 hk1 s1 R1 v r1
  · exact fun G' H' hk' cls d s' R' v => z σ G' H' hk' cls d s' R' v
def nDrop (f : NE) : NS := nBind f fun _ ρ κ Q _ => Q .nx ρ κ
theorem mono_drop (mf : Mono fa) : Mono (nDrop fa) := mono_bind mf fun r ρ κ Q Q' E E' hq _ h => hq _ _ _ h
theorem sn_drop (mf : Mono fa) (h : PEn X W a fa) (hs : swapsWith a none pos.line X.env = pure false := by rfl) : PSn X W (.Expr a pos) (nDrop fa) := PS.imp (ps_expr h hs) fun D σ H q => by
  obtain ⟨F, G, ρ, κ, hk, R, q⟩ := q
  refine ⟨F, G, ρ, κ, hk, R, mf _ _ _ _ _ _ (fun r ρ1 κ1 q => ?_) (fun e ρ' κ' z => ?_) q⟩
  · exact fun v G1 H1 hk1 s1 R1 r1 => q σ G1 H1 hk1 s1 R1
  · exact fun G' H' hk' cls d s' R' v => z σ G' H' hk' cls d s' R' v
def nIfE (t : NT) (f g : NE) : NE := nBind t fun b => if b then f else g
theorem mono_ifE (mt : Mono t) (mf : Mono fa) (mg : Mono fb) : Mono (nIfE t fa fb) := mono_bind mt fun b => by cases b <;> assumption
theorem en_ifE (mt : Mono t) (mf : Mono fa) (mg : Mono fb) (ht : PTn X W c t) (hf : PEn X W a fa) (hg : PEn X W b fb) : PEn X W (.IfExp c a b pos) (nIfE t fa fb) := PE.imp (pe_ifExp ht hf hg) fun σ H Q q => by
  obtain ⟨F, G, ρ, κ, hk, R, q⟩ := q
  refine ⟨F, G, ρ, κ, hk, R, mt _ _ _ _ _ _ (fun b ρ1 κ1 q => ?_) (fun e ρ' κ' z => z) q⟩
  intro G1 H1 hk1 s1 R1
  cases b with
  | true => exact ⟨F, G1, ρ1, κ1, hk1, R1, mf _ _ _ _ _ _ (fun r ρ' κ' z v G' H' hk' s' R' => z v G' H' hk' (s1.trans s') R') (fun e ρ' κ' z => erK.mono s1 z) q⟩
  | false => exact ⟨F, G1, ρ1, κ1, hk1, R1, mg _ _ _ _ _ _ (fun r ρ' κ' z v G' H' hk' s' R' => z v G' H' hk' (s1.trans s') R') (fun e ρ' κ' z => erK.mono s1 z) q⟩
def nSet (i : Nat) (f : NE) : NS := nBind f fun r ρ κ Q _ => oq (putR i r ρ) fun ρ2 => Q .nx ρ2 κ
theorem mono_set {i : Nat} (mf : Mono fa) : Mono (nSet i fa) := mono_bind mf fun r ρ κ Q Q' E E' hq _ h => by
  obtain ⟨ρ2, e, h⟩ := oq_iff.mp h
  exact oq_iff.mpr ⟨ρ2, e, hq _ _ _ h⟩
theorem sn_set {x : Str} {pos' : Pos} (i : Nat) (hN : X.N.Nodup) (mf : Mono fa) (h : PEn X W a fa) (hi : X.N[i]? = some x := by rfl) (hx : Loc X.env.scope x := by first | exact Or.inl rfl | exact Or.inr rfl) (hs : swapsWith a (some (.Name x pos')) pos.line X.env = pure false := by rfl)
    (hf : X.fn x = true ∨ X.env.scope.names.lookup x = some .local := by first | exact .inl rfl | exact .inr rfl) : PSn X W (.Assign [.Name x pos'] a pos) (nSet i fa) := PS.imp (ps_set hN hi hx h hs hf) fun D σ H q => by
  obtain ⟨F, G, ρ, κ, hk, R, q⟩ := q
  refine ⟨F, G, ρ, κ, hk, R, mf _ _ _ _ _ _ (fun r ρ1 κ1 q => ?_) (fun e ρ' κ' z => ?_) q⟩
  · intro v G1 H1 hk1 s1 R1 r1
    obtain ⟨ρ2, e2, q⟩ := oq_iff.mp q
    exact q _ G1 H1 hk1 s1 ⟨R1.cl, R1.ds, R1.rp.put r1 e2⟩
  · exact fun G' H' hk' cls d s' R' v => z σ G' H' hk' cls d s' R' v
def nA (K : PySem.W.Frag) (mg : Str → Option Value) (W : WX) (f : NA) : TA := fun σ H Q => ∃ F G ρ κ hk, RepN K F G H σ ρ κ hk ∧ f ρ κ (fun rs ρ' κ' => ∀ vs G' H' hk', Same G G' → RepN K F G' H' σ ρ' κ' hk' → RNs K G' σ rs vs → Q vs H') (erK K mg W F G σ)
def PAn (X : Cx) (W : WX) (es : List Expr) (f : NA) : Prop := PA X es (nA X.K X.mg W f)
theorem an_up {es : List Expr} {f : Ax} (h : PAv X es f) : PAn X W es (up f) := PA.imp h fun σ H Q q => by
  obtain ⟨F, G, ρ, κ, hk, R, q⟩ := q
  obtain ⟨r, ρ', e1, k⟩ := okQ.ex q
  exact ⟨ln F hk, G, ρ, r, ρ', R.rp, e1, fun v G' H' s R' r' => k v G' H' hk s ⟨R.cl.mono s, R.ds, R'⟩ r'⟩
def nCons (f : NE) (g : NA) : NA := nBind f fun r => nBind g fun rs ρ κ Q _ => Q (r.nrm :: rs) ρ κ
theorem mono_cons {fs : NA} (mf : Mono fa) (mg : Mono fs) : Mono (nCons fa fs) := mono_bind mf fun r => mono_bind mg fun rs ρ κ Q Q' E E' hq _ h => hq _ _ _ h
theorem an_cons {es : List Expr} {fs : NA} (mf : Mono fa) (mg : Mono fs) (he : PEn X W a fa) (hs : PAn X W es fs) (hst : starEach (a :: es) X.env = (false, eval a X.env) :: starEach es X.env := by rfl) : PAn X W (a :: es) (nCons fa fs) := PA.imp (pa_cons he hs hst) fun σ H Q q => by
  obtain ⟨F, G, ρ, κ, hk, R, q⟩ := q
  refine ⟨F, G, ρ, κ, hk, R, mf _ _ _ _ _ _ (fun r ρ1 κ1 q => ?_) (fun e ρ' κ' z => z) q⟩
  intro x G1 H1 hk1 s1 R1 q1
  obtain ⟨G2, t2, R2, n2⟩ := nrm_step R1.rp q1
  refine ⟨F, G2, ρ1, κ1, hk1, ⟨R1.cl.mono t2, R1.ds, R2⟩, mg _ _ _ _ _ _ (fun rs ρ2 κ2 q => ?_) (fun e ρ' κ' z => erK.mono (s1.trans t2) z) q⟩
  intro ys G3 H3 hk3 s3 R3 q3
  exact q _ G3 H3 hk3 ((s1.trans t2).trans s3) R3 ⟨x, ys, rfl, n2.mono s3, q3⟩
def nTup (fs : NA) : NE := nBind fs fun rs ρ κ Q _ => oq (dsOf rs) fun ds => ds.length ≤ 16777216 ∧ Q (.d (.tup ds)) ρ κ
def nLst (fs : NA) : NE := nBind fs fun rs ρ κ Q _ => oq (dsOf rs) fun ds => ds.length ≤ 16777216 ∧ Q (.own ds) ρ κ
theorem mono_tup {fs : NA} (mg : Mono fs) : Mono (nTup fs) := mono_bind mg fun rs ρ κ Q Q' E E' hq _ h => by
  obtain ⟨ds, e, h1, h⟩ := oq_iff.mp h
  exact oq_iff.mpr ⟨ds, e, h1, hq _ _ _ h⟩
theorem mono_lst {fs : NA} (mg : Mono fs) : Mono (nLst fs) := mono_bind mg fun rs ρ κ Q Q' E E' hq _ h => by
  obtain ⟨ds, e, h1, h⟩ := oq_iff.mp h
  exact oq_iff.mpr ⟨ds, e, h1, hq _ _ _ h⟩
theorem en_tup {es : List Expr} {fs : NA} {j : Nat} (mg : Mono fs) (hs : PAn X W es fs) : PEn X W (.Tuple es j pos) (nTup fs) := PE.imp (pe_tup hs) fun σ H Q q => by
  obtain ⟨F, G, ρ, κ, hk, R, q⟩ := q
  refine ⟨F, G, ρ, κ, hk, R, mg _ _ _ _ _ _ (fun rs ρ1 κ1 q => ?_) (fun e ρ' κ' z => z) q⟩
  intro vs G1 H1 hk1 s1 R1 q1
  obtain ⟨ds, e2, hl, q⟩ := oq_iff.mp q
  have hr := ds_of q1 e2
  refine ⟨by rw [sizeLine_num, hr.length]; exact hl, fun p hp => ?_⟩
  obtain ⟨G2, t2, R2, q2⟩ := rz_done R1.rp (RZ.tup (G := G1) hp hr)
  exact q _ G2 _ hk1 (s1.trans t2) ⟨R1.cl.mono t2, R1.ds, R2⟩ q2
theorem en_lst {es : List Expr} {fs : NA} (mg : Mono fs) (hs : PAn X W es fs) : PEn X W (.List es pos) (nLst fs) := PE.imp (pe_lst hs) fun σ H Q q => by
  obtain ⟨F, G, ρ, κ, hk, R, q⟩ := q
  refine ⟨F, G, ρ, κ, hk, R, mg _ _ _ _ _ _ (fun rs ρ1 κ1 q => ?_) (fun e ρ' κ' z => z) q⟩
  intro vs G1 H1 hk1 s1 R1 q1
  obtain ⟨ds, e2, hl, q⟩ := oq_iff.mp q
  have hr := ds_of q1 e2
  refine ⟨by rw [sizeLine_num, hr.length]; exact hl, fun p hp => ?_⟩
  obtain ⟨G2, t2, R2, q2⟩ := rz_done R1.rp (RZ.lst (G := G1) hp hr)
  exact q _ G2 _ hk1 (s1.trans t2) ⟨R1.cl.mono t2, R1.ds, R2⟩ q2
end
end M
namespace M
open PySem PySem.Spec PyProof.Rows L2 TL
abbrev Fn := List SV → Ck → (RV → List SV → Ck → Prop) → (Er → List SV → Ck → Prop) → Prop
def MonoF (f : Fn) : Prop := ∀ as κ (Q Q' : RV → List SV → Ck → Prop) (E E' : Er → List SV → Ck → Prop), (∀ r as' κ', Q r as' κ' → Q' r as' κ') → (∀ e as' κ', E e as' κ' → E' e as' κ') → f as κ Q E → f as κ Q' E'
def spN (K : PySem.W.Frag) (mg : Str → Option Value) (f : Fn) : Sp := fun vs H Q E => ∃ F G args κ hk, RepN K F G H (vs.map some) (args.map some) κ hk ∧ (∀ (k : Nat) (b : Bool) (xs : List D), args[k]? = some (SV.own b xs) → b = true) ∧
  f args κ (fun r as κ' => ∀ v G' H' hk', Same G G' → RepN K F G' H' (vs.map some) (as.map some) κ' hk' → RR K (ln F hk') G' H' (vs.map some) (as.map some) r v → Q v H')
    (fun e as κ' => ∀ G' H' hk' cls d, Same G G' → RepN K F G' H' (vs.map some) (as.map some) κ' hk' → ErV K mg G' e cls d → E cls d H')
def nCall (f : Fn) (fs : NA) : NE := nBind fs fun rs ρ1 κ1 Q E => (bors rs).Nodup ∧ oq (argsOf ρ1 rs) fun args => f args κ1 (fun r as κ2 => nobor r ∧ oq (give rs as ρ1) fun ρ2 => Q r ρ2 κ2) (fun e as κ2 => oq (give rs as ρ1) fun ρ2 => E e ρ2 κ2)
theorem mono_call {f : Fn} {fs : NA} (mf : MonoF f) (ms : Mono fs) : Mono (nCall f fs) := mono_bind ms fun rs ρ κ Q Q' E E' hq he h => by
  obtain ⟨h1, h⟩ := h
  obtain ⟨args, e, h⟩ := oq_iff.mp h
  refine ⟨h1, oq_iff.mpr ⟨args, e, mf _ _ _ _ _ _ (fun r as κ2 q => ?_) (fun er as κ2 q => ?_) h⟩⟩
  · obtain ⟨ρ2, e2, q2⟩ := oq_iff.mp q.2
    exact ⟨q.1, oq_iff.mpr ⟨ρ2, e2, hq _ _ _ q2⟩⟩
  · obtain ⟨ρ2, e2, q2⟩ := oq_iff.mp q
    exact oq_iff.mpr ⟨ρ2, e2, he _ _ _ q2⟩
theorem read_callN {K : PySem.W.Frag} {mg : Str → Option Value} {W : WX} {f : Fn} {fs : NA} {σ : Sg} {H : Hp} {Q : VK} (mf : MonoF f) (ms : Mono fs) (h : nE K mg W (nCall f fs) σ H Q) : nA K mg W fs σ H fun vs H1 => spN K mg f vs H1 Q (fun cls d H' => W cls d σ H') := by
  obtain ⟨F, G, ρ, κ, hk, R, h⟩ := h
  refine ⟨F, G, ρ, κ, hk, R, ms _ _ _ _ _ _ (fun rs ρ1 κ1 q => ?_) (fun _ _ _ z => z) h⟩
  intro vs G1 H1 hk1 s1 R1 q1
  obtain ⟨hnd, q⟩ := q
  obtain ⟨args, e2, q⟩ := oq_iff.mp q
  obtain ⟨l1, a1, a2⟩ := argsOf_get e2
  obtain ⟨l2, n1⟩ := q1.get
  let A : Addr → Prop := fun p => ∃ i b xs, i ∈ bors rs ∧ oAt ρ1 i b xs ∧ vAt σ i (.ref p)
  have decA : ∀ p, Decidable (A p) := fun p => Classical.propDecidable _
  have hkn : ∀ {p}, (ln F hk1).hp p = none → hk1 p = none ∧ F.hp p = none := fun {p} z => by
    have z : (match hk1 p with | some o => some o | none => F.hp p) = none := z
    cases e : hk1 p with
    | none => rw [e] at z; exact ⟨rfl, z⟩
    | some o => rw [e] at z; cases z
  let F' : Fm := ⟨fun b => if G1 b = none ∧ ¬ A b ∧ hk1 b = none then H1 b else none, fun j => match vs[j]? with | some (.ref p) => some p | _ => none⟩
  have fp : ∀ b o, F'.hp b = some o → G1 b = none ∧ ¬ A b ∧ hk1 b = none ∧ H1 b = some o := fun b o q => by
    have q : (if G1 b = none ∧ ¬ A b ∧ hk1 b = none then H1 b else none) = some o := q
    split at q
    · rename_i z; exact ⟨z.1, z.2.1, z.2.2, q⟩
    · cases q
  have pf : ∀ b o, G1 b = none → ¬ A b → hk1 b = none → H1 b = some o → F'.hp b = some o := fun b o z1 z2 z4 z3 => by
    show (if G1 b = none ∧ ¬ A b ∧ hk1 b = none then H1 b else none) = some o
    rw [if_pos ⟨z1, z2, z4⟩]; exact z3
  have slot : ∀ j b xs, args[j]? = some (SV.own b xs) → b = true ∧ ∃ i c p us, rs[j]? = some (RV.bor i) ∧ oAt ρ1 i c xs ∧ vAt σ i (.ref p) ∧ vs[j]? = some (V.ref p) ∧ H1 p = some (.lst us) ∧ G1 p = none ∧ (ln F hk1).hp p = none ∧ RDs K G1 xs us ∧ A p := fun j b xs q => by
    obtain ⟨hb, i, c, z1, z2⟩ := a2 j b xs q
    obtain ⟨p, us, h1, h2, h3, h4, h5, h6⟩ := R1.rp.own i c xs z2
    obtain ⟨v, w1, w2⟩ := n1 j _ z1
    have w2 : vAt σ i v := w2
    cases h1.inj w2
    exact ⟨hb, i, c, p, us, z1, z2, h1, w1, h2, h3, h4, h5, i, c, xs, mem_bors.mpr ⟨j, z1⟩, z2, h1⟩
  have notA : ∀ b o, F.hp b = some o → ¬ A b := fun b o z => by
    rintro ⟨i, c, xs, w1, w2, w3⟩
    obtain ⟨p, us, k1, k2, k3, k4, _⟩ := R1.rp.own i c xs w2
    cases k1.inj w3
    rw [(hkn k4).2] at z; cases z
  have lnF : ∀ b o, F.hp b = some o → hk1 b = none ∧ (ln F hk1).hp b = some o := fun b o z => by
    have e : hk1 b = none := by
      cases e : hk1 b with
      | none => rfl
      | some u => rw [R1.ds b u e] at z; cases z
    refine ⟨e, ?_⟩
    show (match hk1 b with | some o => some o | none => F.hp b) = some o
    rw [e]; exact z
  have F'of : ∀ b o, F.hp b = some o → F'.hp b = some o := fun b o z => by
    obtain ⟨e, z2⟩ := lnF b o z
    exact pf b o (R1.rp.fg b o z2) (notA b o z) e (R1.rp.fh b o z2)
  have R2 : RepN K F' G1 H1 (vs.map some) (args.map some) κ1 hk1 := by
    refine ⟨R1.cl, fun p o z => ?_, R1.rp.gh, fun b o q => ?_, fun b o q => ?_, by simp [l1, l2], fun j x q => ?_, fun j b xs q => ?_, fun i j p b c xs ys hij q1 q2 q3 q4 => ?_⟩
    · cases e : F'.hp p with
      | none => rfl
      | some u => rw [(fp p u e).2.2.1] at z; cases z
    · have q : (match hk1 b with | some o => some o | none => F'.hp b) = some o := q
      cases e : hk1 b with
      | none => rw [e] at q; exact (fp b o q).2.2.2
      | some u =>
        rw [e] at q; cases q
        refine R1.rp.fh b _ ?_
        show (match hk1 b with | some o => some o | none => F.hp b) = _
        rw [e]
    · have q : (match hk1 b with | some o => some o | none => F'.hp b) = some o := q
      cases e : hk1 b with
      | none => rw [e] at q; exact (fp b o q).1
      | some u =>
        refine R1.rp.fg b u ?_
        show (match hk1 b with | some o => some o | none => F.hp b) = _
        rw [e]
    · obtain ⟨v, w1, w2⟩ := n1 j _ (a1 j x (at_map.mp q))
      exact ⟨v, at_map.mpr w1, w2⟩
    · obtain ⟨hb, i, c, p, us, z1, z2, z3, z4, z5, z6, z7, z8, z9⟩ := slot j b xs (at_map.mp q)
      refine ⟨p, us, at_map.mpr z4, z5, z6, ?_, z8, fun _ => ?_⟩
      · show (match hk1 p with | some o => some o | none => F'.hp p) = none
        rw [(hkn z7).1]
        show (if G1 p = none ∧ ¬ A p ∧ hk1 p = none then H1 p else none) = none
        rw [if_neg (fun z => z.2.1 z9)]
      · show (match vs[j]? with | some (.ref p) => some p | _ => none) = some p
        rw [z4]
    · obtain ⟨_, i1, c1, p1, us1, z1, z2, z3, z4, _⟩ := slot i b xs (at_map.mp q1)
      obtain ⟨_, i2, c2, p2, us2, y1, y2, y3, y4, _⟩ := slot j c ys (at_map.mp q2)
      have e1 := at_map.mp q3
      have e2 := at_map.mp q4
      rw [z4] at e1; cases e1
      rw [y4] at e2; cases e2
      have hi : i1 ≠ i2 := fun z => hij (bors_uniq hnd z1 (z ▸ y1))
      exact R1.rp.sep i1 i2 p c1 c2 _ _ hi z2 y2 z3 y3
  have back : ∀ {as : List SV} {κ2 : Ck} {G' H' hk' : Hp} {ρ2 : Sl}, give rs as ρ1 = some ρ2 → Same G1 G' → RepN K F' G' H' (vs.map some) (as.map some) κ2 hk' → RepN K F G' H' σ ρ2 κ2 hk' ∧
      ∀ i b ys, oAt ρ2 i b ys → ∃ p, vAt σ i (.ref p) ∧ ((∃ j c zs, as[j]? = some (SV.own c zs) ∧ vs[j]? = some (V.ref p)) ∨ F'.hp p ≠ none) := fun {as κ2 G' H' hk' ρ2} e4 s' R' => by
    obtain ⟨l3, g1⟩ := give_get e4 hnd
    have hkn' : ∀ {p}, (ln F' hk').hp p = none → hk' p = none ∧ F'.hp p = none := fun {p} z => by
      have z : (match hk' p with | some o => some o | none => F'.hp p) = none := z
      cases e : hk' p with
      | none => rw [e] at z; exact ⟨rfl, z⟩
      | some o => rw [e] at z; cases z
    have F'n : ∀ {p}, F'.hp p = none → F.hp p = none := fun {p} z => by
      cases e : F.hp p with
      | none => rfl
      | some o => rw [F'of p o e] at z; cases z
    have hkF : ∀ p o, F'.hp p = some o → hk' p = none := fun p o z => by
      cases e : hk' p with
      | none => rfl
      | some u => rw [R'.ds p u e] at z; cases z
    have lnup : ∀ b o, (ln F hk').hp b = some o → (ln F' hk').hp b = some o := fun b o q => by
      have q : (match hk' b with | some o => some o | none => F.hp b) = some o := q
      show (match hk' b with | some o => some o | none => F'.hp b) = some o
      cases e : hk' b with
      | none => rw [e] at q; exact F'of b o q
      | some u => rw [e] at q; exact q
    have own3 : ∀ i b ys, oAt ρ2 i b ys → ∃ p us, vAt σ i (.ref p) ∧ H' p = some (.lst us) ∧ G' p = none ∧ (ln F hk').hp p = none ∧ RDs K G' ys us ∧ (b = true → F.par i = some p) ∧ (∃ xs, oAt ρ1 i b xs) ∧ ((∃ j c zs, as[j]? = some (SV.own c zs) ∧ vs[j]? = some (V.ref p)) ∨ F'.hp p ≠ none) := fun i b ys q => by
      rcases g1 i _ q with ⟨j, b', c, ys', xs, h1, h2, h3, h4⟩ | ⟨h1, h2⟩
      · cases h3
        obtain ⟨p, us, k1, k2, k3, k4, k5, k6⟩ := R1.rp.own i _ xs h4
        obtain ⟨v', w1, w2⟩ := n1 j _ h1
        have w2 : vAt σ i v' := w2
        cases k1.inj w2
        obtain ⟨p', us', m1, m2, m3, m4, m5, m6⟩ := R'.rp.own j c ys (at_map.mpr h2)
        have e := at_map.mp m1
        rw [w1] at e; cases e
        refine ⟨p, us', k1, m2, m3, ?_, m5, k6, ⟨xs, h4⟩, .inl ⟨j, c, ys, h2, w1⟩⟩
        show (match hk' p with | some o => some o | none => F.hp p) = none
        rw [(hkn' m4).1]
        exact (hkn k4).2
      · obtain ⟨p, us, k1, k2, k3, k4, k5, k6⟩ := R1.rp.own i b ys h2
        have nA : ¬ A p := by
          rintro ⟨i', b', xs', w1, w2, w3⟩
          have hi : i' ≠ i := fun z => h1 (z ▸ w1)
          exact R1.rp.sep i' i p b' b xs' ys hi w2 h2 w3 k1
        have z := pf p _ k3 nA (hkn k4).1 k2
        have z2 : (ln F' hk').hp p = some (.lst us) := by
          show (match hk' p with | some o => some o | none => F'.hp p) = _
          rw [hkF p _ z]; exact z
        refine ⟨p, us, k1, R'.rp.fh p _ z2, R'.rp.fg p _ z2, ?_, RDs.mono s' _ _ k5, k6, ⟨ys, h2⟩, .inr (by rw [z]; simp)⟩
        show (match hk' p with | some o => some o | none => F.hp p) = none
        rw [hkF p _ z]
        exact (hkn k4).2
    refine ⟨⟨R'.cl, fun p o z => F'n (R'.ds p o z), R'.rp.gh, fun b o q => R'.rp.fh b o (lnup b o q), fun b o q => R'.rp.fg b o (lnup b o q), by rw [l3]; exact R1.rp.len, fun i x q => ?_, fun i b ys q => ?_, fun i j p b c xs ys hij q1 q2 q3 q4 => ?_⟩, fun i b ys q => ?_⟩
    · rcases g1 i _ q with ⟨j, b', c, ys', xs, h1, h2, h3, h4⟩ | ⟨h1, h2⟩
      · cases h3
      · obtain ⟨v, w1, w2⟩ := R1.rp.dat i x h2
        exact ⟨v, w1, RD.mono s' _ _ w2⟩
    · obtain ⟨p, us, z1, z2, z3, z4, z5, z6, _⟩ := own3 i b ys q
      exact ⟨p, us, z1, z2, z3, z4, z5, z6⟩
    · obtain ⟨_, _, _, _, _, _, _, _, ⟨xs1, o1⟩, _⟩ := own3 i b xs q1
      obtain ⟨_, _, _, _, _, _, _, _, ⟨xs2, o2⟩, _⟩ := own3 j c ys q2
      exact R1.rp.sep i j p b c xs1 xs2 hij o1 o2 q3 q4
    · obtain ⟨p, us, z1, z2, z3, z4, z5, z6, z7, z8⟩ := own3 i b ys q
      exact ⟨p, z1, z8⟩
  refine ⟨F', G1, args, κ1, hk1, R2, fun j b xs q => (slot j b xs q).1, mf _ _ _ _ _ _ (fun r as κ2 q => ?_) (fun e as κ2 q => ?_) q⟩
  · intro v G' H' hk' s' R' q'
    obtain ⟨hnb, q⟩ := q
    obtain ⟨ρ2, e4, q⟩ := oq_iff.mp q
    obtain ⟨R3, o3⟩ := back e4 s' R'
    refine q v G' H' hk' (s1.trans s') R3 ?_
    cases r with
    | d x => exact q'
    | bor i => exact hnb.elim
    | own xs =>
      obtain ⟨q, us, rfl, h2, h3, h4, h5, h6⟩ := q'
      have h4' : (match hk' q with | some o => some o | none => F'.hp q) = none := h4
      have hn : hk' q = none := by
        cases e : hk' q with
        | none => rfl
        | some o => rw [e] at h4'; cases h4'
      rw [hn] at h4'
      refine ⟨q, us, rfl, h2, h3, ?_, h5, fun i b ys o1 o2 => ?_⟩
      · show (match hk' q with | some o => some o | none => F.hp q) = none
        rw [hn]
        cases e : F.hp q with
        | none => rfl
        | some o => rw [F'of q o e] at h4'; cases h4'
      · obtain ⟨p, z1, z8⟩ := o3 i b ys o1
        cases z1.inj o2
        rcases z8 with ⟨j, c, zs, y1, y2⟩ | z8
        · exact h6 j c zs (at_map.mpr y1) (at_map.mpr y2)
        · exact z8 h4'
  · intro G' H' hk' cls d s' R' hv
    obtain ⟨ρ2, e4, q⟩ := oq_iff.mp q
    exact q G' H' hk' cls d (s1.trans s') (back e4 s' R').1 hv
end M
namespace M
open PySem PySem.Spec PyProof.Rows L2 TL
def runN (n m : Nat) (body : NS) : Fn := fun args κ Q E => args.length = m ∧ body (args.map some ++ List.replicate (n - args.length) none) κ
  (fun fl ρ κ' => oq (fin fl ρ) fun r => oq (outs args 0 ρ) fun as => Q r as κ') (fun e ρ κ' => oq (outs args 0 ρ) fun as => E e as κ')
theorem mono_run {n m : Nat} {body : NS} (mb : Mono body) : MonoF (runN n m body) := fun as κ Q Q' E E' hq he h => by
  refine ⟨h.1, mb _ _ _ _ _ _ (fun fl ρ κ' q => ?_) (fun e ρ κ' q => ?_) h.2⟩
  · obtain ⟨r, e1, q⟩ := oq_iff.mp q
    obtain ⟨as', e2, q⟩ := oq_iff.mp q
    exact oq_iff.mpr ⟨r, e1, oq_iff.mpr ⟨as', e2, hq _ _ _ q⟩⟩
  · obtain ⟨as', e2, q⟩ := oq_iff.mp q
    exact oq_iff.mpr ⟨as', e2, he _ _ _ q⟩
theorem outs_rep {K : PySem.W.Frag} {F F' : Fm} {G G' H H' : Hp} {vs : List V} {args as : List SV} {σ' : Sg} {ρ' : Sl} (hpar : F'.par = F.par) (hsub : ∀ p, F.hp p = none → True) (R : Rep K F G H (vs.map some) (args.map some)) (ht : ∀ (k : Nat) (b : Bool) (xs : List D), args[k]? = some (SV.own b xs) → b = true) (s : Same G G') (R' : Rep K F' G' H' σ' ρ') (e2 : outs args 0 ρ' = some as) :
    Rep K F' G' H' (vs.map some) (as.map some) := by
  obtain ⟨g1, g2, g3⟩ := outs_get e2
  have key : ∀ k b ys, oAt (as.map some) k b ys → ∃ p, vAt (vs.map some) k (.ref p) ∧ vAt σ' k (.ref p) ∧ oAt ρ' k true ys ∧ b = true ∧ ∃ c xs, oAt (args.map some) k c xs := fun k b ys e => by
    obtain ⟨z1, ⟨c, xs, z2⟩, z3⟩ := g3 k b ys (at_map.mp e)
    have z3 : oAt ρ' k true ys := by simpa using z3
    have hc := ht k c xs z2
    obtain ⟨p, us, h1, h2, h3, h4, h5, h6⟩ := R.own k c xs (at_map.mpr z2)
    obtain ⟨p', us', k1, k2, k3, k4, k5, k6⟩ := R'.own k true ys z3
    have e1 : F'.par k = some p := by rw [hpar]; exact h6 hc
    have : p' = p := Option.some.inj ((k6 rfl).symm.trans e1)
    subst this
    exact ⟨p', h1, k1, z3, z1, c, xs, at_map.mpr z2⟩
  refine ⟨R'.gh, R'.fh, R'.fg, ?_, fun i x e => ?_, fun i b xs e => ?_, fun i j p b c xs ys hij f1 f2 f3 f4 => ?_⟩
  · have := R.len
    simp at this ⊢; omega
  · obtain ⟨w, h1, h2⟩ := R.dat i x (at_map.mpr (g2 i x (at_map.mp e)))
    exact ⟨w, h1, RD.mono s _ _ h2⟩
  · obtain ⟨p, h1, h2, h3, h4, _⟩ := key i b xs e
    obtain ⟨p', us', k1, k2, k3, k4, k5, k6⟩ := R'.own i true xs h3
    have : p' = p := by cases k1.inj h2; rfl
    subst this
    exact ⟨p', us', h1, k2, k3, k4, k5, fun _ => k6 rfl⟩
  · obtain ⟨_, _, _, _, _, c1, x1, o1⟩ := key i b xs f1
    obtain ⟨_, _, _, _, _, c2, x2, o2⟩ := key j c ys f2
    exact R.sep i j p c1 c2 x1 x2 hij o1 o2 f3 f4
theorem outs_res {K : PySem.W.Frag} {F F' : Fm} {G G' H H' : Hp} {vs : List V} {args as : List SV} {σ' : Sg} {ρ' : Sl} {fl : Fl} {r : RV} {v : V} (hpar : F'.par = F.par) (R : Rep K F G H (vs.map some) (args.map some)) (ht : ∀ (k : Nat) (b : Bool) (xs : List D), args[k]? = some (SV.own b xs) → b = true) (s : Same G G') (R' : Rep K F' G' H' σ' ρ')
    (e1 : fin fl ρ' = some r) (e2 : outs args 0 ρ' = some as) (hv : match fl with | .rt q => RR K F' G' H' σ' ρ' q v | _ => v = V.non) : RR K F' G' H' (vs.map some) (as.map some) r v := by
  obtain ⟨g1, g2, g3⟩ := outs_get e2
  have key : ∀ k b ys, oAt (as.map some) k b ys → ∃ p, vAt (vs.map some) k (.ref p) ∧ vAt σ' k (.ref p) ∧ oAt ρ' k true ys := fun k b ys e => by
    obtain ⟨z1, ⟨c, xs, z2⟩, z3⟩ := g3 k b ys (at_map.mp e)
    have z3 : oAt ρ' k true ys := by simpa using z3
    have hc := ht k c xs z2
    obtain ⟨p, us, h1, h2, h3, h4, h5, h6⟩ := R.own k c xs (at_map.mpr z2)
    obtain ⟨p', us', k1, k2, k3, k4, k5, k6⟩ := R'.own k true ys z3
    have e1 : F'.par k = some p := by rw [hpar]; exact h6 hc
    have : p' = p := Option.some.inj ((k6 rfl).symm.trans e1)
    subst this
    exact ⟨p', h1, k1, z3⟩
  cases fl with
  | nx => cases e1; exact hv
  | bk => cases e1
  | ct => cases e1
  | rt q =>
    cases q with
    | d x => cases e1; exact hv
    | own xs =>
      cases e1
      obtain ⟨q, us, rfl, h2, h3, h4, h5, h6⟩ := hv
      refine ⟨q, us, rfl, h2, h3, h4, h5, fun k b ys o1 o2 => ?_⟩
      obtain ⟨p, k1, k2, k3⟩ := key k b ys o1
      have : p = q := by cases k1.inj o2; rfl
      subst this
      exact h6 k true ys k3 k2
    | bor i =>
      unfold fin at e1
      dsimp only at e1
      split at e1
      rotate_left
      · cases e1
      rename_i xs o
      cases e1
      have hv : vAt σ' i v := hv
      obtain ⟨q, us, h1, h2, h3, h4, h5, h6⟩ := R'.own i false xs o
      cases h1.inj hv
      refine ⟨q, us, rfl, h2, h3, h4, h5, fun k b ys o1 o2 => ?_⟩
      obtain ⟨p, k1, k2, k3⟩ := key k b ys o1
      have : p = q := by cases k1.inj o2; rfl
      subst this
      have hik : i ≠ k := fun z => by subst z; cases At.inj o k3
      exact R'.sep i k p false true xs ys hik o k3 hv k2
section
variable {P : Program} {w : World} {K : PySem.W.Frag} {mg : Str → Option Value} {base : Heap}
theorem fn_bodyN {N ps : List Str} {body : NS} {vs : List V} {H : Hp} {Q : VK} {E : XK} (mb : Mono body) (h : spN K mg (runN N.length ps.length body) vs H Q E) : nS K mg (fun cls d _ H' => E cls d H') body { nx := fun _ H' => Q .non H', rt := Q } (L2.start N vs) H := by
  obtain ⟨F, G, args, κ, hk, R, ht, hl, q⟩ := h
  have hlen : args.length = vs.length := by simpa using R.rp.len
  have R0 : RepN K F G H (L2.start N vs) (args.map some ++ List.replicate (N.length - args.length) none) κ hk := by
    unfold L2.start
    rw [hlen]
    exact ⟨R.cl, R.ds, R.rp.start⟩
  refine ⟨F, G, _, κ, hk, R0, mb _ _ _ _ _ _ (fun fl ρ' κ' q => ?_) (fun e ρ' κ' q => ?_) q⟩
  · intro σ' G' H' hk' s' R'
    obtain ⟨r, e2, q2⟩ := oq_iff.mp q
    obtain ⟨as, e3, q3⟩ := oq_iff.mp q2
    have z1 : RepN K F G' H' (vs.map some) (as.map some) κ' hk' := ⟨R'.cl, R'.ds, outs_rep (F := ln F hk) (F' := ln F hk') rfl (fun _ _ => trivial) R.rp ht s' R'.rp e3⟩
    cases fl with
    | nx => exact q3 .non G' H' hk' s' z1 (outs_res (F := ln F hk) (F' := ln F hk') rfl R.rp ht s' R'.rp e2 e3 rfl)
    | bk => cases e2
    | ct => cases e2
    | rt u =>
      intro v hv
      exact q3 v G' H' hk' s' z1 (outs_res (F := ln F hk) (F' := ln F hk') rfl R.rp ht s' R'.rp e2 e3 hv)
  · intro σ' G' H' hk' cls d s' R' hv
    obtain ⟨as, e3, q⟩ := oq_iff.mp q
    exact q G' H' hk' cls d s' ⟨R'.cl, R'.ds, outs_rep (F := ln F hk) (F' := ln F hk') rfl (fun _ _ => trivial) R.rp ht s' R'.rp e3⟩ hv
end
end M
namespace M
open PySem PySem.Spec PyProof.Rows L2 TL
section
variable {P : Program} {w : World} {K : PySem.W.Frag} {mg : Str → Option Value} {base : Heap}
theorem fn_okN {x qual : Str} {st : Stmt} {f : Addr} {fd : FuncData} {N ps : List Str} {k : Nat} {body : NS} (F : Fun K x qual st f fd) (S : FnScope N ps (defScope st)) (mb : Mono body)
    (hb : ∀ (cdv : Value) (A : Around) (outer : List Env) (s : Shared) (H : Hp) (E : XK), Room k (A.deeper (envOfC qual (defScope st) s.heap.objs.size f cdv)) →
      Takes (cxOf (L2.CX P w) P w K mg base N qual (defScope st) f cdv A outer s H E) (fun cls d _ H' => E cls d H') →
      PBn (cxOf (L2.CX P w) P w K mg base N qual (defScope st) f cdv A outer s H E) (fun cls d _ H' => E cls d H') (defBody st) body) : FnOk P w K mg base (L2.CX P w) (k + 1) f fd ps (spN K mg (runN N.length ps.length body)) := by
  refine F.okX S (fun vs H Q E h => ?_) (fun cdv A outer s H vs Q E hr h => ⟨_, hb cdv A outer s H E hr ?_, fn_bodyN mb h⟩)
  · obtain ⟨F, G, args, κ, hk, R, ht, hl, q⟩ := h
    have := R.rp.len
    simp at this
    omega
  · exact takes_of rfl rfl rfl rfl
end
section
variable {X : Cx} {W : WX} {x : Str} {e : Expr} {es : List Expr} {fs : NA} {p pos : Pos}
theorem en_call {k : Nat} {f : Addr} {fd : FuncData} {ps : List Str} {F : Fn} (G : FnOk X.prog X.w X.K X.mg X.base (L2.CX X.prog X.w) k f fd ps (spN X.K X.mg F)) (mf : MonoF F) (ms : Mono fs) (tk : Takes X W) (hr : Room k X.A) (hm : X.mg x = some (.ref f)) (hk : PySem.W.keepIn X.K (.ref f) = true) (hb : Binds X.K fd ps []) (ha : PAn X W (e :: es) fs)
    (hg : Gl X x := by rfl) (hdb : (x == ("__debug__" : Str)) = false := by decide)
    (he : starEach (e :: es) X.env = (false, eval e X.env) :: starEach es X.env := by rfl) (hpl : (backTo pos (starEach es X.env)).any (·.1) = false := by rfl) : PEn X W (.Call (.Name x p) (e :: es) [] pos) (nCall F fs) :=
  PE.imp (pe_callS (E := fun σ => WE W σ) G hr hg hm hk hb (fun σ => passAt tk σ) ha hdb he hpl) fun σ H Q q => read_callN mf ms q
end
end M
namespace M
open PySem PySem.Spec PyProof.Rows L2 TL
def spG (K : PySem.W.Frag) (ns : List Str) : Sp := fun vs H Q _ => ∃ a C us, vs = .ref a :: us ∧ us.length = ns.length ∧ OexC K C ∧ (∀ n ∈ ns, PySem.W.findIn K (.ref C) n = some none) ∧ H a = some (exo a C none) ∧
  ∀ dx H2, H dx = none → dx ≠ a → H2 a = some (exo a C (some dx)) → H2 dx = some (exd dx (ns.zip us).reverse) → (∀ b, b ≠ a → b ≠ dx → H2 b = H b) → Q .non H2
theorem spG_len {K : PySem.W.Frag} {ns : List Str} {vs : List V} {H : Hp} {Q : VK} {E : XK} (h : spG K ns vs H Q E) : vs.length = ns.length + 1 := by
  obtain ⟨a, C, us, rfl, hl, _⟩ := h
  simp [hl]
theorem init_1 {P : Program} {w : World} {K : PySem.W.Frag} {mg : Str → Option Value} {base : Heap} {x qual : Str} {st : Stmt} {f : Addr} {fd : FuncData} {N : List Str} {k : Nat} {n0 : Str} (hN : N.length = 2) (F : Fun K x qual st f fd) (S : FnScope N N (defScope st))
    (hb : ∀ (cdv : Value) (A : Around) (outer : List Env) (s : Shared) (H : Hp) (E : XK), PSs (cxOf CX0 P w K mg base N qual (defScope st) f cdv A outer s H E).nox (defBody st) (tOst K n0 (tVar 0) (tVar 1))) : FnOk P w K mg base CX0 (k + 1) f fd N (spG K [n0]) := by
  refine F.ok S (fun vs H Q E h => by rw [spG_len h, hN]; rfl) (fun cdv A outer s H vs Q E hr h => ⟨_, hb cdv A outer s H E, ?_⟩)
  obtain ⟨a, C, us, rfl, hl, hC, hn, ha, q⟩ := h
  match us, hl with
  | [v], _ =>
    have hs : L2.start N [.ref a, v] = [some (.ref a), some v] := by
      unfold L2.start
      simp [hN]
    rw [hs]
    refine ⟨v, rfl, .ref a, rfl, a, C, rfl, hC, hn _ (by simp), .inl ⟨ha, fun dx hd hne => ?_⟩⟩
    refine q dx _ hd hne upd_same (by rw [upd_ne hne, upd_same]; rfl) fun b h1 h2 => by rw [upd_ne h1, upd_ne h2]
theorem init_2 {P : Program} {w : World} {K : PySem.W.Frag} {mg : Str → Option Value} {base : Heap} {x qual : Str} {st : Stmt} {f : Addr} {fd : FuncData} {N : List Str} {k : Nat} {n0 n1 : Str} (hN : N.length = 3) (F : Fun K x qual st f fd) (S : FnScope N N (defScope st))
    (hb : ∀ (cdv : Value) (A : Around) (outer : List Env) (s : Shared) (H : Hp) (E : XK), PSs (cxOf CX0 P w K mg base N qual (defScope st) f cdv A outer s H E).nox (defBody st) (fun D σ H => tOst K n0 (tVar 0) (tVar 1) { D with nx := fun σ' H' => tOst K n1 (tVar 0) (tVar 2) D σ' H' } σ H)) : FnOk P w K mg base CX0 (k + 1) f fd N (spG K [n0, n1]) := by
  refine F.ok S (fun vs H Q E h => by rw [spG_len h, hN]; rfl) (fun cdv A outer s H vs Q E hr h => ⟨_, hb cdv A outer s H E, ?_⟩)
  obtain ⟨a, C, us, rfl, hl, hC, hn, ha, q⟩ := h
  match us, hl with
  | [v, w], _ =>
    have hs : L2.start N [.ref a, v, w] = [some (.ref a), some v, some w] := by
      unfold L2.start
      simp [hN]
    rw [hs]
    refine ⟨v, rfl, .ref a, rfl, a, C, rfl, hC, hn _ (by simp), .inl ⟨ha, fun dx hd hne => ?_⟩⟩
    refine ⟨w, rfl, .ref a, rfl, a, C, rfl, hC, hn _ (by simp), .inr ⟨dx, _, upd_same, by rw [upd_ne hne, upd_same], by simp, ?_⟩⟩
    refine q dx _ hd hne (by rw [upd_ne (Ne.symm hne), upd_same]) (by rw [upd_same]; rfl) fun b h1 h2 => by rw [upd_ne h2, upd_ne h1, upd_ne h2]
structure ErF (K : PySem.W.Frag) (mg : Str → Option Value) (x qual : Str) (st : Stmt) (ns : List Str) : Prop where
  ex : ∃ (C f : Addr) (fd : FuncData), mg x = some (.ref C) ∧ OexC K C ∧ XfC K C ∧ (∀ n ∈ ns, PySem.W.findIn K (.ref C) n = some none) ∧ PySem.W.findIn K (.ref C) "__init__" = some (some (.ref f)) ∧ PySem.W.typeIn K (.ref f) = some (.type "function") ∧ Fun K "__init__" qual st f fd
structure ErOk (P : Program) (w : World) (K : PySem.W.Frag) (mg : Str → Option Value) (base : Heap) (x : Str) (k : Nat) (ns : List Str) : Prop where
  ex : ∃ (C f : Addr) (fd : FuncData) (ps : List Str), mg x = some (.ref C) ∧ OexC K C ∧ (∀ n ∈ ns, PySem.W.findIn K (.ref C) n = some none) ∧ PySem.W.findIn K (.ref C) "__init__" = some (some (.ref f)) ∧ PySem.W.typeIn K (.ref f) = some (.type "function") ∧ Binds K fd ps [] ∧ FnOk P w K mg base CX0 k f fd ps (spG K ns)
theorem er_of {P : Program} {w : World} {K : PySem.W.Frag} {mg : Str → Option Value} {base : Heap} {x qual : Str} {st : Stmt} {ns ps : List Str} {k : Nat} (T : ErF K mg x qual st ns)
    (h : ∀ (f : Addr) (fd : FuncData), Fun K "__init__" qual st f fd → FnOk P w K mg base CX0 k f fd ps (spG K ns))
    (hb : ∀ (kV doc pm : Value) (an : Option Addr) (cdv ct : Value) (us : List Value), us.length = ps.length →
      bindArgs (PySem.W.fnOf "__init__" qual (defArgs st) (defBody st) (defScope st) .none kV doc pm an cdv ct) ⟨us, []⟩ = pure (ps.zip us)) : ErOk P w K mg base x k ns := by
  obtain ⟨C, f, fd, hm, hO, _, hG, hI, hT, F⟩ := T.ex
  exact ⟨C, f, fd, ps, hm, hO, hG, hI, hT, F.binds hb, h f fd F⟩
def nRaise (c : Str) (ns : List Str) (fs : NA) : NS := nBind fs fun rs ρ κ _ E => oq (dsOf rs) fun ds => ds.length = ns.length ∧ E ⟨c, ns.reverse, ds.reverse⟩ ρ κ
theorem mono_raise {c : Str} {ns : List Str} {fs : NA} (ms : Mono fs) : Mono (nRaise c ns fs) := mono_bind ms fun rs ρ κ Q Q' E E' _ he h => by
  obtain ⟨ds, e, hl, h⟩ := oq_iff.mp h
  exact oq_iff.mpr ⟨ds, e, hl, he _ _ _ h⟩
theorem zip_rev {α β : Type} {l : List α} {m : List β} (h : l.length = m.length) : (l.zip m).reverse = l.reverse.zip m.reverse := by
  induction l generalizing m with
  | nil => simp
  | cons a l ih =>
    cases m with
    | nil => simp at h
    | cons b m =>
      simp at h
      simp only [List.zip_cons_cons, List.reverse_cons, ih h]
      rw [List.zip_append (by simpa using h)]
      rfl
theorem RDs.rev {K : PySem.W.Frag} {H : Hp} : ∀ {ds : List D} {vs : List V}, RDs K H ds vs → RDs K H ds.reverse vs.reverse
  | [], vs, h => by cases h; rfl
  | d :: ds, vs, ⟨x, xs, e1, e2, e3⟩ => by
    subst e1
    simpa using (RDs.rev e3).append (RDs.one e2)
theorem sn_raise {X : Cx} {W : WX} {c : Str} {ns : List Str} {e : Expr} {es : List Expr} {fs : NA} {k : Nat} {p pos pos' : Pos} (ok : ErOk X.prog X.w X.K X.mg X.base c k ns) (hs : ns.length ≤ 900) (hc : X.calm = true) (tk : Takes X W) (hr : Room (k + 1) X.A) (ms : Mono fs) (ha : PAn X W (e :: es) fs) (hg : Gl X c := by rfl)
    (hdb : (c == ("__debug__" : Str)) = false := by decide) (he : starEach (e :: es) X.env = (false, eval e X.env) :: starEach es X.env := by rfl) (hpl : (backTo pos (starEach es X.env)).any (·.1) = false := by rfl) :
    PSn X W (.Raise (some (.Call (.Name c p) (e :: es) [] pos)) none pos') (nRaise c ns fs) := by
  obtain ⟨C, f, fd, ps, hm, hO, hG, hI, hT, hb, G0⟩ := ok.ex
  refine PS.imp (ps_raise hc tk (pmk_oex hO hI hT G0 hr hb .nil pass0 hg hm ha hdb he hpl)) fun D σ H q => ?_
  obtain ⟨F, G, ρ, κ, hk, R, q⟩ := q
  refine ⟨F, G, ρ, κ, hk, R, ms _ _ _ _ _ _ (fun rs ρ1 κ1 q => ?_) (fun er ρ' κ' z => ?_) q⟩
  · intro vs G1 H1 hk1 s1 R1 q1
    obtain ⟨ds, e2, hl, q⟩ := oq_iff.mp q
    have hr := ds_of q1 e2
    have hl2 : vs.length = ns.length := by rw [hr.length, hl]
    refine ⟨by omega, fun a hn => ?_⟩
    refine ⟨a, C, vs, by simp, hl2, hO, hG, upd_same, fun dx H2 hdx hne h1 h2 h3 => ⟨rfl, dx, _, h1, h2, ?_, ?_⟩⟩
    · rw [upd_ne hne] at hdx; exact hdx
    · rw [upd_ne hne] at hdx
      have hh : upd (L2.del H2 a) dx (.xd (ns.zip vs).reverse) = upd H1 dx (.xd (ns.zip vs).reverse) := by
        funext b
        by_cases z1 : b = dx
        · subst z1; rw [upd_same, upd_same]
        · rw [upd_ne z1, upd_ne z1]
          by_cases z2 : b = a
          · subst z2; rw [L2.del_same, hn]
          · rw [L2.del_ne z2, h3 b z2 z1, upd_ne z2]
      rw [hh]
      have gn := R1.rp.gNone hdx
      have sG := Same.updN (o := .xd (ns.zip vs).reverse) gn
      refine q σ (upd G1 dx (.xd (ns.zip vs).reverse)) _ hk1 (.ref C) (some dx) (s1.trans sG) ⟨R1.cl.mono sG, R1.ds, R1.rp.newG hdx⟩ ⟨⟨C, hm, rfl⟩, .inr ⟨dx, vs.reverse, rfl, ?_, by simpa using hl2, RDs.mono sG _ _ hr.rev⟩⟩
      rw [upd_same, zip_rev hl2.symm]
  · exact fun G' H' hk' cls d s' R' v => z σ G' H' hk' cls d s' R' v
end M
namespace M
open PySem PySem.Spec PyProof.Rows L2 TL
def lkD : List Str → List D → Str → Option D
  | n :: ns, x :: xs, f => if n = f then some x else lkD ns xs f
  | _, _, _ => none
theorem lkD_ok {K : PySem.W.Frag} {H : Hp} : ∀ {ns : List Str} {xs : List D} {us : List V} {f : Str} {x : D}, us.length = ns.length → RDs K H xs us → lkD ns xs f = some x → ∃ u, (ns.zip us).lookup f = some u ∧ RD K H x u
  | [], xs, us, f, x, hl, hr, e => by unfold lkD at e; cases e
  | n :: ns, [], us, f, x, hl, hr, e => by unfold lkD at e; cases e
  | n :: ns, d :: xs, us, f, x, hl, ⟨u, us', e1, e2, e3⟩, e => by
    subst e1
    unfold lkD at e
    simp only [List.zip_cons_cons, List.lookup_cons]
    split at e
    · rename_i h
      cases e
      subst h
      exact ⟨u, by simp, e2⟩
    · rename_i h
      have hb : (f == n) = false := by simpa using fun z => h z.symm
      rw [hb]
      exact lkD_ok (by simpa using hl) e3 e
def bGiv (a dd : Addr) (f : Str) (fa : Ex) : Ex := fun ρ => match fa ρ with
  | some (.d (.exn a' dd' ns xs), ρ1) => if a' = a ∧ dd' = dd then (lkD ns xs f).map fun x => (.d x, ρ1) else none
  | _ => none
theorem ev_given {X : Cx} {a C dd : Addr} {oe : Obj} {pn : List (Addr × Obj)} {e : Expr} {fa : Ex} {pos : Pos} {n : Str} (T : XfC X.K C) (hno : PySem.W.findIn X.K (.ref C) n = some none) (hz : Zc (.ref C) (some dd) oe) (hf : ∃ vs, oe.data = .fields vs)
    (he : PEv (X.suite a ((a, oe) :: pn)) e fa) (hb : attributeBase e n X.env (eval e X.env) = eval e X.env := by rfl) : PEv (X.suite a ((a, oe) :: pn)) (.Attribute e n pos) (bGiv a dd n fa) :=
  PE.imp (pe_xf T hno hz hf he hb) fun σ H Q q => by
    obtain ⟨F, G, ρ, r, ρ', R, q, k⟩ := q
    unfold bGiv at q
    split at q
    rotate_left
    · cases q
    rename_i a' dd' ns xs ρ1 e1
    split at q
    rotate_left
    · cases q
    rename_i h
    obtain ⟨rfl, rfl⟩ := h
    obtain ⟨x, ex, q⟩ := Option.map_eq_some_iff.mp q
    cases q
    refine ⟨F, G, ρ, _, _, R, e1, fun v G1 H1 s1 R1 q1 => ?_⟩
    obtain ⟨hv, us, h1, h2, h3⟩ := q1
    obtain ⟨u, l1, l2⟩ := lkD_ok h2 h3 ex
    exact ⟨hv, rfl, _, _, u, rfl, R1.gh _ _ h1, l1, k u G1 H1 s1 R1 l2⟩
end M
namespace M
open PySem PySem.Spec PyProof.Rows L2 TL
abbrev Hn := Str × Option Nat × (Addr → Addr → Sx)
def dropS (oi : Option Nat) (fl : Fl) (ρ : Sl) : Sl := match oi, fl with
  | _, .rt _ => ρ
  | none, _ => ρ
  | some i, _ => ρ.set i none
def erIs (c x : Str) : Bool := x == c || x == "StringError" || x == "ValueError" || x == "Exception"
def nHd (er : Er) (ρ : Sl) (κ : Ck) (Q : Fl → Sl → Ck → Prop) (E : Er → Sl → Ck → Prop) : List Hn → Prop
  | [] => E er ρ κ
  | (x, oi, s) :: r => if erIs er.c x = true then (match oi with
      | none => ∀ a dd, okQ (s a dd ρ) fun fl ρ' => Q fl (dropS oi fl ρ') κ
      | some i => er.ns ≠ [] ∧ ∀ a dd, okQ (s a dd (ρ.set i (some (.d (.exn a dd er.ns er.xs))))) fun fl ρ' => Q fl (dropS oi fl ρ') κ)
    else nHd er ρ κ Q E r
def nTry (l : List Str) (f : NS) (hs : List Hn) : NS := fun ρ κ Q E => f ρ κ Q fun er ρ1 κ1 => er.c ∈ l ∧ nHd er ρ1 κ1 Q E hs
theorem nHd_mono {er : Er} {ρ : Sl} {κ : Ck} {Q Q' : Fl → Sl → Ck → Prop} {E E' : Er → Sl → Ck → Prop} (hq : ∀ r ρ' κ', Q r ρ' κ' → Q' r ρ' κ') (he : ∀ e ρ' κ', E e ρ' κ' → E' e ρ' κ') : ∀ {hs : List Hn}, nHd er ρ κ Q E hs → nHd er ρ κ Q' E' hs
  | [], h => he _ _ _ h
  | (x, oi, s) :: r, h => by
    unfold nHd at h ⊢
    split at h
    · rename_i z
      rw [if_pos z]
      cases oi with
      | none => exact fun a dd => okQ.imp (h a dd) fun r ρ' q => hq _ _ _ q
      | some i => exact ⟨h.1, fun a dd => okQ.imp (h.2 a dd) fun r ρ' q => hq _ _ _ q⟩
    · rename_i z
      rw [if_neg z]
      exact nHd_mono hq he h
theorem mono_try {l : List Str} {f : NS} {hs : List Hn} (mf : Mono f) : Mono (nTry l f hs) := fun ρ κ Q Q' E E' hq he h => mf _ _ _ _ _ _ hq (fun e ρ' κ' z => ⟨z.1, nHd_mono hq he z.2⟩) h
structure ErTab (K : PySem.W.Frag) (mg : Str → Option Value) (ns : List Str) (l : List Str) : Prop where
  cls : ∀ c ∈ l, ∃ C, mg c = some (.ref C) ∧ XfC K C ∧ ∀ n ∈ ns, PySem.W.findIn K (.ref C) n = some none
  is : ∀ c ∈ l, ∀ x ∈ l, ∀ C D, mg c = some (.ref C) → mg x = some (.ref D) → PySem.W.exmOne K (.ref C) (.ref D) = some (erIs c x)
inductive HdsN (X : Cx) (ns l : List Str) : List ExceptHandler → List Hn → Prop
  | nil : HdsN X ns l [] []
  | plain {x : Str} {s : Addr → Addr → Sx} {b₀ : Stmt} {rest : List Stmt} {p1 p2 : Pos} {hds : List ExceptHandler} {hs : List Hn} (hx : x ∈ l) (hg : Gl X x) (hdb : (x == ("__debug__" : Str)) = false)
      (hsu : ∀ (a dd : Addr) (pn : List (Addr × Obj)) (oe : Obj), PBv (X.suite a ((a, oe) :: pn)) (b₀ :: rest) (s a dd)) (r : HdsN X ns l hds hs) :
      HdsN X ns l (.ExceptHandler (some (.Name x p1)) none (b₀ :: rest) p2 :: hds) ((x, none, s) :: hs)
  | named {x n : Str} {s : Addr → Addr → Sx} {i : Nat} {b₀ : Stmt} {rest : List Stmt} {p1 p2 : Pos} {hds : List ExceptHandler} {hs : List Hn} (hx : x ∈ l) (hg : Gl X x) (hdb : (x == ("__debug__" : Str)) = false) (hi : X.N[i]? = some n) (hln : X.env.kindOf n = some .local)
      (hsu : ∀ (a dd C : Addr) (pn : List (Addr × Obj)) (oe : Obj), XfC X.K C → (∀ n ∈ ns, PySem.W.findIn X.K (.ref C) n = some none) → Zc (.ref C) (some dd) oe → (∃ vs, oe.data = .fields vs) → PBv (X.suite a ((a, oe) :: pn)) (b₀ :: rest) (s a dd)) (r : HdsN X ns l hds hs) :
      HdsN X ns l (.ExceptHandler (some (.Name x p1)) (some n) (b₀ :: rest) p2 :: hds) ((x, some i, s) :: hs)
section
variable {X : Cx} {W : WX} {body : List Stmt} {h₀ : ExceptHandler} {hds : List ExceptHandler} {hs : List Hn} {pos : Pos} {f : NS} {ns l : List Str}
theorem HdsN.mix (T : ErTab X.K X.mg ns l) {hds : List ExceptHandler} {hs : List Hn} (h : HdsN X ns l hds hs) : ∃ l2 : List Hd1, HdsMix X hds l2 ∧
    ∀ (F : Fm) (G : Hp) (D : Ends) (er : Er) (ρ1 : Sl) (κ1 : Ck), er.c ∈ l →
      nHd er ρ1 κ1 (fun fl ρ' κ' => ∀ σ' G' H' hk', Same G G' → RepN X.K F G' H' σ' ρ' κ' hk' → FQ X.K (ln F hk') D fl G' H' σ' ρ') (erS X.K X.mg W F G) hs → erS X.K X.mg (wMix X.K W D l2) F G er ρ1 κ1 := by
  induction h with
  | nil => exact ⟨[], .nil, fun F G D er ρ1 κ1 hc q => q⟩
  | @plain x s b₀ rest p1 p2 hds hs hx hg hdb hsu r ih =>
    obtain ⟨l2, h2, h3⟩ := ih
    obtain ⟨Dx, hD, _⟩ := T.cls x hx
    refine ⟨(.ref Dx, none, fun a cls d => fun D σ H => ∃ dd, tS X.K (s a dd) D σ H) :: l2, .plain ⟨hg, hdb, .inl hD⟩ (fun a oe cls d pn _ _ => ⟨fun pins s' σ H D I ⟨dd, q⟩ => (hsu a dd pn oe).run pins s' σ H D I q⟩) h2, fun F G D er ρ1 κ1 hc q => ?_⟩
    intro σ' G' H' hk' cls d s' R' hv
    obtain ⟨⟨C, hC, rfl⟩, hd⟩ := hv
    refine ⟨_, T.is _ hc _ hx _ _ hC hD, fun hb a na => ?_, fun hb => ?_⟩
    · unfold nHd at q
      rw [if_pos hb] at q
      obtain ⟨fl, ρ', e1, k⟩ := okQ.ex (q a a)
      refine ⟨a, ln F hk', G', ρ1, fl, ρ', R'.rp, e1, fun σ2 G2 H2 s2 R2 => ?_⟩
      have k := k σ2 G2 H2 hk' (s'.trans s2) (by
        have : dropS none fl ρ' = ρ' := by cases fl <;> rfl
        rw [this]
        exact ⟨R'.cl.mono s2, R'.ds, R2⟩)
      have : dropS none fl ρ' = ρ' := by cases fl <;> rfl
      rw [this] at k
      exact k
    · unfold nHd at q
      rw [if_neg (by rw [hb]; exact Bool.false_ne_true)] at q
      exact h3 F G D er ρ1 κ1 hc q σ' G' H' hk' _ d s' R' ⟨⟨C, hC, rfl⟩, hd⟩
  | @named x n s i b₀ rest p1 p2 hds hs hx hg hdb hi hln hsu r ih =>
    obtain ⟨l2, h2, h3⟩ := ih
    obtain ⟨Dx, hD, _⟩ := T.cls x hx
    refine ⟨(.ref Dx, some i, fun a cls d => fun D σ H => ∃ C dd, cls = .ref C ∧ d = some dd ∧ XfC X.K C ∧ (∀ n ∈ ns, PySem.W.findIn X.K (.ref C) n = some none) ∧ tS X.K (s a dd) D σ H) :: l2, .named ⟨hg, hdb, .inl hD⟩ hi hln (fun a oe cls d pn hz hf => ⟨fun pins s' σ H D I q => ?_⟩) h2, fun F G D er ρ1 κ1 hc q => ?_⟩
    · obtain ⟨C, dd, rfl, rfl, x1, x2, q⟩ := q
      exact (hsu a dd C pn oe x1 x2 hz hf).run pins s' σ H D I q
    intro σ' G' H' hk' cls d s' R' hv
    obtain ⟨⟨C, hC, rfl⟩, hd⟩ := hv
    refine ⟨_, T.is _ hc _ hx _ _ hC hD, fun hb a na => ?_, fun hb => ?_⟩
    · unfold nHd at q
      rw [if_pos hb] at q
      obtain ⟨qn, q⟩ := q
      rcases hd with hd | ⟨dd, us, rfl, hd1, hd2, hd3⟩
      · exact absurd hd qn
      obtain ⟨C', hC', x1, x2⟩ := T.cls _ hc
      rw [hC] at hC'
      cases hC'
      obtain ⟨fl, ρ', e1, k⟩ := okQ.ex (q a dd)
      have R1 : Rep X.K (ln F hk') G' H' (σ'.set i (some (.ref a))) (ρ1.set i (some (.d (.exn a dd er.ns er.xs)))) := R'.rp.setD ⟨rfl, us, hd1, hd2, hd3⟩
      refine ⟨C, dd, rfl, rfl, x1, x2, ln F hk', G', _, fl, ρ', R1, e1, fun σ2 G2 H2 s2 R2 => ?_⟩
      cases fl with
      | rt r => exact k σ2 G2 H2 hk' (s'.trans s2) ⟨R'.cl.mono s2, R'.ds, R2⟩
      | nx => exact k (σ2.set i none) G2 H2 hk' (s'.trans s2) ⟨R'.cl.mono s2, R'.ds, R2.clear⟩
      | bk => exact k (σ2.set i none) G2 H2 hk' (s'.trans s2) ⟨R'.cl.mono s2, R'.ds, R2.clear⟩
      | ct => exact k (σ2.set i none) G2 H2 hk' (s'.trans s2) ⟨R'.cl.mono s2, R'.ds, R2.clear⟩
    · unfold nHd at q
      rw [if_neg (by rw [hb]; exact Bool.false_ne_true)] at q
      exact h3 F G D er ρ1 κ1 hc q σ' G' H' hk' _ d s' R' ⟨⟨C, hC, rfl⟩, hd⟩
theorem sn_try (T : ErTab X.K X.mg ns l) (hN : X.N.Nodup) (hs0 : X.stack = X.env :: X.outer) (hf0 : X.env.frame = some X.env.locals) (tk : Takes X W) (mf : Mono f)
    (hb : ∀ (W' : WX) (pn : List (Addr × Obj)) (xe : Value → Shared → Prop), Takes (X.tr pn xe) W' → PBn (X.tr pn xe) W' body f) (hh : HdsN X ns l (h₀ :: hds) hs) : PSn X W (.Try body (h₀ :: hds) [] [] pos) (nTry l f hs) := by
  obtain ⟨l2, h2, h3⟩ := hh.mix (W := W) T
  refine PS.imp (ps_try_mix (tb := fun W' => nS X.K X.mg W' f) hs0 hf0 hN tk (fun W' pn xe tk' _ => hb W' pn xe tk') h2) fun D σ H q => ?_
  obtain ⟨F, G, ρ, κ, hk, R, q⟩ := q
  exact ⟨F, G, ρ, κ, hk, R, mf _ _ _ _ _ _ (fun _ _ _ z => z) (fun er ρ1 κ1 z => h3 F G D er ρ1 κ1 z.1 z.2) q⟩
end
end M
namespace M
open PySem PySem.Spec PyProof.Rows L2 TL
abbrev Sel := List (Nat ⊕ Nat)
def pick {α : Type} : Sel → List α → List α → List α
  | [], _, _ => []
  | .inl i :: s, l, d => (l[i]?).toList ++ pick s l d
  | .inr j :: s, l, d => (d[j]?).toList ++ pick s l d
theorem pick_vals {vs dvs : List V} {us its : List Value} (r : Vals vs us) (rd : Vals dvs its) : ∀ sel : Sel, Vals (pick sel vs dvs) (pick sel us its)
  | [] => .nil
  | .inl i :: s => by
    unfold pick
    cases e : vs[i]? with
    | none =>
      have : us[i]? = none := by
        rw [List.getElem?_eq_none_iff] at e ⊢
        rw [← r.length]; exact e
      rw [this]
      exact pick_vals r rd s
    | some x =>
      obtain ⟨u, h1, h2⟩ := r.get e
      rw [h1]
      exact .cons h2 (pick_vals r rd s)
  | .inr i :: s => by
    unfold pick
    cases e : dvs[i]? with
    | none =>
      have : its[i]? = none := by
        rw [List.getElem?_eq_none_iff] at e ⊢
        rw [← rd.length]; exact e
      rw [this]
      exact pick_vals r rd s
    | some x =>
      obtain ⟨u, h1, h2⟩ := rd.get e
      rw [h1]
      exact .cons h2 (pick_vals r rd s)
def isLit : D → Bool
  | .non => true
  | .bl _ => true
  | .int _ => true
  | .str _ => true
  | _ => false
def litV : D → V
  | .bl b => .bl b
  | .int i => .int i
  | .str s => .str ⟨s.toArray⟩
  | _ => .non
theorem lit_rd {K : PySem.W.Frag} {G : Hp} {d : D} (h : isLit d = true) : RD K G d (litV d) := by
  cases d <;> first | rfl | cases h
structure DefG (P : Program) (w : World) (K : PySem.W.Frag) (mg : Str → Option Value) (base : Heap) (CX : CXT) (x : Str) (st : Stmt) (k : Nat) (ps : List Str) (dds : List D) (sp : Sp) : Prop where
  ex : ∃ (f : Addr) (fd : FuncData), mg x = some (.ref f) ∧ FunD K x x (defArgs st) (defBody st) (defScope st) (dds.map litV) [] f fd ∧ FnOk P w K mg base CX k f fd ps sp
section
variable {P : Program} {w : World} {K : PySem.W.Frag} {mg : Str → Option Value} {base : Heap} {CX : CXT} {x : Str} {st : Stmt} {k n : Nat} {ps ks : List Str} {dds : List D} {sp : Sp} {sel : Sel} {f : Addr} {fd : FuncData}
theorem fun_fund (F : Fun K x x st f fd) : FunD K x x (defArgs st) (defBody st) (defScope st) [] [] f fd := by
  obtain ⟨oc, od, kV, doc, pm, an, cdv, ct, osl, rfl, lk, hcd⟩ := F.ex
  exact ⟨⟨oc, od, .none, kV, doc, pm, an, cdv, ct, osl, rfl, lk, hcd, .inl ⟨rfl, rfl⟩, .inl rfl⟩, F.kp⟩
theorem defG_of (T : DF K mg x st) (h : ∀ (f : Addr) (fd : FuncData), Fun K x x st f fd → FnOk P w K mg base CX k f fd ps sp) : DefG P w K mg base CX x st k ps [] sp := by
  obtain ⟨f, fd, hm, F⟩ := T.ex
  exact ⟨f, fd, hm, fun_fund F, h f fd F⟩
theorem defG_ofD (T : DFD K mg x st (dds.map litV)) (h : ∀ (f : Addr) (fd : FuncData), FunD K x x (defArgs st) (defBody st) (defScope st) (dds.map litV) [] f fd → FnOk P w K mg base CX k f fd ps sp) : DefG P w K mg base CX x st k ps dds sp := by
  obtain ⟨f, fd, hm, F⟩ := T.ex
  exact ⟨f, fd, hm, F, h f fd F⟩
def BindG (x : Str) (st : Stmt) (ps : List Str) (n : Nat) (ks : List Str) (sel : Sel) (nd : Nat) : Prop :=
  (nd = 0 ∧ ∀ (kV doc pm : Value) (an : Option Addr) (cdv ct : Value) (us ws : List Value), us.length = n → ws.length = ks.length →
    bindArgs (PySem.W.fnOf x x (defArgs st) (defBody st) (defScope st) .none kV doc pm an cdv ct) ⟨us, ks.zip ws⟩ = pure (ps.zip (pick sel (us ++ ws) []))) ∨
  (nd ≠ 0 ∧ ∀ (T : Addr) (kV doc pm : Value) (an : Option Addr) (cdv ct : Value) (us ws its : List Value), us.length = n → ws.length = ks.length → its.length = nd →
    ∃ k, bindArgs (PySem.W.fnOf x x (defArgs st) (defBody st) (defScope st) (.ref T) kV doc pm an cdv ct) ⟨us, ks.zip ws⟩ = seqItems? (.ref T) >>= k ∧ k (some its.toArray) = pure (ps.zip (pick sel (us ++ ws) its)))
theorem kbn_of (F : FunD K x x (defArgs st) (defBody st) (defScope st) (dds.map litV) [] f fd) (B : BindG x st ps n ks sel dds.length) :
    ∃ its : List Value, KBn K fd ps n ks (fun us ws => pick sel (us ++ ws) its) (fun vs zs => pick sel (vs ++ zs) (dds.map litV)) := by
  obtain ⟨oc, od, dV, kV, doc, pm, an, cdv, ct, osl, rfl, lk, hcd, hD, hK⟩ := F.ex
  rcases hD with ⟨h1, rfl⟩ | ⟨h1, T, o, its, m, rfl, lT, oT, rT⟩
  · have h0 : dds = [] := by simpa using h1
    subst h0
    rcases B with ⟨_, B⟩ | B
    · exact ⟨[], ⟨fun s us ws _ l1 l2 => .of_eq (B kV doc pm an cdv ct us ws l1 l2), fun r1 r2 => pick_vals (r1.append r2) .nil sel⟩⟩
    · exact absurd rfl B.1
  · rcases B with ⟨h0, B⟩ | B
    · exact absurd (by simpa using h0) h1
    · refine ⟨its, ⟨fun s us ws X l1 l2 => ?_, fun r1 r2 => pick_vals (r1.append r2) rT sel⟩⟩
      obtain ⟨k, e1, e2⟩ := B.2 T kV doc pm an cdv ct us ws its l1 l2 (by simpa using rT.length.symm)
      refine BindsTo.of_looks fun M => ?_
      rw [e1]
      exact looks_items X lT oT (.of_pure e2)
end
end M
namespace M
open PySem PySem.Spec PyProof.Rows L2 TL
def tCallG (n m : Nat) (sp : Sp) (gV : List V → List V → List V) (E : L2.St → XK) (t tk : TA) : TE := fun σ H Q => t σ H fun vs H1 => tk σ H1 fun zs H2 => vs.length = n ∧ zs.length = m ∧ sp (gV vs zs) H2 Q (E σ)
section
variable {X : Cx} {CX : CXT} {k n : Nat} {f : Addr} {fd : FuncData} {ps ks : List Str} {sp : Sp} {E : L2.St → XK} {x : Str} {p pos : Pos} {e : Expr} {es : List Expr} {kws : List Keyword} {t tk : TA} {g : List Value → List Value → List Value} {gV : List V → List V → List V}
theorem run_fnNS {pins : List (Addr × Obj)} {σ : L2.St} {H : Hp} {s : Shared} {Q : VK} {us ws : List Value} {vs zs : List V} (F : FnOk X.prog X.w X.K X.mg X.base CX k f fd ps sp) (hr : Room k X.A) (hb : KBn X.K fd ps n ks g gV) (hx : PassesAt CX X σ (E σ))
    (I : Inv X pins σ H s) (r : Vals vs us) (rz : Vals zs ws) (l1 : vs.length = n) (l2 : zs.length = ks.length) (h : sp (gV vs zs) H Q (E σ)) : wpAny (model X.prog X.w) X.A (call (.ref f) us (ks.zip ws)) (EP X pins σ Q) X.xe s := by
  have r2 := hb.rel r rz
  refine wpAny_call (codeAny_mono (F.run X.A X.stack s H ⟨us, ks.zip ws⟩ (g us ws) (gV vs zs) Q (E σ) hr I.env0 (hb.to s us ws I.kIn (r.length.symm.trans l1) (rz.length.symm.trans l2)) r2 h) fun r s' hq => ?_)
  cases r with
  | error e => exact hx pins H s e s' I hq
  | ok fl =>
    cases fl with
    | ret u => exact I.after hq
    | next => exact False.elim hq
    | brk => exact False.elim hq
    | cont => exact False.elim hq
theorem pe_callG (F : FnOk X.prog X.w X.K X.mg X.base CX k f fd ps sp) (hr : Room k X.A) (hg : Gl X x) (hm : X.mg x = some (.ref f)) (hk : PySem.W.keepIn X.K (.ref f) = true) (hb : KBn X.K fd ps n ks g gV) (hx : ∀ σ, PassesAt CX X σ (E σ))
    (ha : PA X (e :: es) t) (hkw : PK X kws tk) (hall : (backToKw pos (keywordEach kws X.env)).all (·.1.isSome) = true := by rfl) (hks : (backToKw pos (keywordEach kws X.env)).filterMap (·.1) = ks := by rfl)
    (hdb : (x == ("__debug__" : Str)) = false := by decide) (he : starEach (e :: es) X.env = (false, eval e X.env) :: starEach es X.env := by rfl)
    (hpl : ((backTo pos (starEach (e :: es) X.env)).any (·.1) || (backToKw pos (keywordEach kws X.env)).any (·.1.isNone)) = false := by rfl) :
    PE X (.Call (.Name x p) (e :: es) kws pos) (tCallG n ks.length sp gV E t tk) := by
  refine ⟨fun pins s σ H Q I h => ?_⟩
  refine wpAny_Call_Name_kw (ld_glob I hg hm ?_ hdb)
  refine PySem.W.callWith_KW (h₀ := X.base) I.ok.mod.kin hk hall (thn (ha.run pos pins s σ H _ I h) fun us s1 ⟨vs, H1, I1, r, q⟩ => ?_) hpl he
  refine thn (hkw.run pos pins s1 σ H1 _ I1 q) fun ws s2 ⟨zs, H2, I2, rz, l1, l2, q2⟩ => ⟨I2.kIn, ?_⟩
  rw [hks]
  exact run_fnNS F hr hb (hx σ) I2 r rz l1 l2 q2
theorem pe_callG0 (F : FnOk X.prog X.w X.K X.mg X.base CX k f fd ps sp) (hr : Room k X.A) (hg : Gl X x) (hm : X.mg x = some (.ref f)) (hk : PySem.W.keepIn X.K (.ref f) = true) (hb : KBn X.K fd ps 0 ks g gV) (hx : ∀ σ, PassesAt CX X σ (E σ))
    (hkw : PK X kws tk) (hall : (backToKw pos (keywordEach kws X.env)).all (·.1.isSome) = true := by rfl) (hks : (backToKw pos (keywordEach kws X.env)).filterMap (·.1) = ks := by rfl)
    (hdb : (x == ("__debug__" : Str)) = false := by decide)
    (hpl : ((backTo pos (starEach [] X.env)).any (·.1) || (backToKw pos (keywordEach kws X.env)).any (·.1.isNone)) = false := by rfl) :
    PE X (.Call (.Name x p) [] kws pos) (tCallG 0 ks.length sp gV E tNil tk) := by
  refine ⟨fun pins s σ H Q I h => ?_⟩
  refine wpAny_Call_Name_kw (ld_glob I hg hm ?_ hdb)
  refine PySem.W.callWith_KW0 (h₀ := X.base) I.ok.mod.kin hk hall (thn (hkw.run pos pins s σ H _ I h) fun ws s2 ⟨zs, H2, I2, rz, l1, l2, q2⟩ => ⟨I2.kIn, ?_⟩) hpl
  rw [hks]
  exact run_fnNS (vs := []) (us := []) F hr hb (hx σ) I2 .nil rz rfl l2 q2
end
def pickR (sel : Sel) (rs : List RV) (dds : List D) : List RV := pick sel rs (dds.map RV.d)
theorem rns_get_none {K : PySem.W.Frag} {G : Hp} {σ : Sg} {rs : List RV} {vs : List V} (h : RNs K G σ rs vs) {i : Nat} (e : rs[i]? = none) : vs[i]? = none := by
  obtain ⟨l, _⟩ := h.get
  rw [List.getElem?_eq_none_iff] at e ⊢
  omega
theorem rns_pick {K : PySem.W.Frag} {G : Hp} {σ : Sg} {rs : List RV} {vs : List V} {dds : List D} (hl : ∀ d ∈ dds, isLit d = true) (h : RNs K G σ rs vs) : ∀ sel : Sel, RNs K G σ (pickR sel rs dds) (pick sel vs (dds.map litV))
  | [] => rfl
  | .inl i :: s => by
    unfold pickR pick
    cases e : rs[i]? with
    | none =>
      rw [rns_get_none h e]
      exact rns_pick hl h s
    | some r =>
      obtain ⟨v, h1, h2⟩ := h.get.2 i r e
      rw [h1]
      exact ⟨v, _, rfl, h2, rns_pick hl h s⟩
  | .inr i :: s => by
    unfold pickR pick
    cases e : dds[i]? with
    | none =>
      have e1 : (dds.map RV.d)[i]? = none := by simpa using e
      have e2 : (dds.map litV)[i]? = none := by simpa using e
      rw [e1, e2]
      exact rns_pick hl h s
    | some d =>
      have e1 : (dds.map RV.d)[i]? = some (.d d) := by simp [e]
      have e2 : (dds.map litV)[i]? = some (litV d) := by simp [e]
      rw [e1, e2]
      exact ⟨_, _, rfl, lit_rd (hl d (List.mem_of_getElem? e)), rns_pick hl h s⟩
theorem RNs.app2 {K : PySem.W.Frag} {G : Hp} {σ : Sg} : ∀ {rs qs : List RV} {vs us : List V}, RNs K G σ rs vs → RNs K G σ qs us → RNs K G σ (rs ++ qs) (vs ++ us)
  | [], qs, vs, us, h, k => by cases h; exact k
  | r :: rs, qs, vs, us, ⟨x, xs, e1, e2, e3⟩, k => by subst e1; exact ⟨x, xs ++ us, rfl, e2, RNs.app2 e3 k⟩
theorem RNs.len {K : PySem.W.Frag} {G : Hp} {σ : Sg} {rs : List RV} {vs : List V} (h : RNs K G σ rs vs) : vs.length = rs.length := h.get.1
def nApp (n m : Nat) (f g : NA) : NA := nBind f fun rs => nBind g fun qs ρ κ Q _ => rs.length = n ∧ qs.length = m ∧ Q (rs ++ qs) ρ κ
def nPick (sel : Sel) (dds : List D) (f : NA) : NA := nBind f fun rs ρ κ Q _ => Q (pickR sel rs dds) ρ κ
theorem mono_app {n m : Nat} {f g : NA} (mf : Mono f) (mg : Mono g) : Mono (nApp n m f g) := mono_bind mf fun r => mono_bind mg fun rs ρ κ Q Q' E E' hq _ h => ⟨h.1, h.2.1, hq _ _ _ h.2.2⟩
theorem mono_pick {sel : Sel} {dds : List D} {f : NA} (mf : Mono f) : Mono (nPick sel dds f) := mono_bind mf fun r ρ κ Q Q' E E' hq _ h => hq _ _ _ h
def PKn (X : Cx) (W : WX) (kws : List Keyword) (f : NA) : Prop := PK X kws (nA X.K X.mg W f)
section
variable {X : Cx} {W : WX} {a e : Expr} {es : List Expr} {kws : List Keyword} {f g : NA} {fa : NE} {nm : Option Str} {kpos p pos : Pos} {x : Str}
theorem an_nil : PAn X W [] (up aNil) := an_up av_nil
theorem kn_nil : PKn X W [] (up aNil) := PK.imp kv_nil fun σ H Q q => by
  obtain ⟨F, G, ρ, κ, hk, R, q⟩ := q
  obtain ⟨r, ρ', e1, k⟩ := okQ.ex q
  exact ⟨ln F hk, G, ρ, r, ρ', R.rp, e1, fun v G' H' s R' r' => k v G' H' hk s ⟨R.cl.mono s, R.ds, R'⟩ r'⟩
theorem kn_cons {fs : NA} (mf : Mono fa) (mg : Mono fs) (he : PEn X W a fa) (hs : PKn X W kws fs) : PKn X W (⟨nm, a, kpos⟩ :: kws) (nCons fa fs) := PK.imp (pk_cons he hs) fun σ H Q q => by
  obtain ⟨F, G, ρ, κ, hk, R, q⟩ := q
  refine ⟨F, G, ρ, κ, hk, R, mf _ _ _ _ _ _ (fun r ρ1 κ1 q => ?_) (fun e ρ' κ' z => z) q⟩
  intro x G1 H1 hk1 s1 R1 q1
  obtain ⟨G2, t2, R2, n2⟩ := nrm_step R1.rp q1
  refine ⟨F, G2, ρ1, κ1, hk1, ⟨R1.cl.mono t2, R1.ds, R2⟩, mg _ _ _ _ _ _ (fun rs ρ2 κ2 q => ?_) (fun e ρ' κ' z => erK.mono (s1.trans t2) z) q⟩
  intro ys G3 H3 hk3 s3 R3 q3
  exact q _ G3 H3 hk3 ((s1.trans t2).trans s3) R3 ⟨x, ys, rfl, n2.mono s3, q3⟩
theorem read_pick {K : PySem.W.Frag} {mg : Str → Option Value} {sel : Sel} {dds : List D} {n m : Nat} (hl : ∀ d ∈ dds, isLit d = true) (mf : Mono f) (mgg : Mono g) {σ : Sg} {H : Hp} {Q : List V → Hp → Prop} (h : nA K mg W (nPick sel dds (nApp n m f g)) σ H Q) :
    nA K mg W f σ H fun vs H1 => nA K mg W g σ H1 fun zs H2 => vs.length = n ∧ zs.length = m ∧ Q (pick sel (vs ++ zs) (dds.map litV)) H2 := by
  obtain ⟨F, G, ρ, κ, hk, R, q⟩ := h
  refine ⟨F, G, ρ, κ, hk, R, mf _ _ _ _ _ _ (fun rs ρ1 κ1 q => ?_) (fun e ρ' κ' z => z) q⟩
  intro vs G1 H1 hk1 s1 R1 q1
  refine ⟨F, G1, ρ1, κ1, hk1, R1, mgg _ _ _ _ _ _ (fun qs ρ2 κ2 q => ?_) (fun e ρ' κ' z => erK.mono s1 z) q⟩
  intro zs G2 H2 hk2 s2 R2 q2
  obtain ⟨l1, l2, q⟩ := q
  exact ⟨by rw [q1.len, l1], by rw [q2.len, l2], q _ G2 H2 hk2 (s1.trans s2) R2 (rns_pick hl (RNs.app2 (q1.mono s2) q2) sel)⟩
theorem en_callG {k n : Nat} {st : Stmt} {ps ks : List Str} {dds : List D} {sel : Sel} {F : Fn} (T : DefG X.prog X.w X.K X.mg X.base (L2.CX X.prog X.w) x st k ps dds (spN X.K X.mg F)) (B : BindG x st ps n ks sel dds.length) (hl : ∀ d ∈ dds, isLit d = true) (mf : MonoF F) (m1 : Mono f) (m2 : Mono g) (tk : Takes X W) (hr : Room k X.A)
    (ha : PAn X W (e :: es) f) (hkw : PKn X W kws g) (hg : Gl X x := by rfl) (hall : (backToKw pos (keywordEach kws X.env)).all (·.1.isSome) = true := by rfl) (hks : (backToKw pos (keywordEach kws X.env)).filterMap (·.1) = ks := by rfl)
    (hdb : (x == ("__debug__" : Str)) = false := by decide) (he : starEach (e :: es) X.env = (false, eval e X.env) :: starEach es X.env := by rfl)
    (hpl : ((backTo pos (starEach (e :: es) X.env)).any (·.1) || (backToKw pos (keywordEach kws X.env)).any (·.1.isNone)) = false := by rfl) : PEn X W (.Call (.Name x p) (e :: es) kws pos) (nCall F (nPick sel dds (nApp n ks.length f g))) := by
  obtain ⟨fa, fd, hm, FD, G⟩ := T.ex
  obtain ⟨its, hb⟩ := kbn_of FD B
  exact PE.imp (pe_callG (E := fun σ => WE W σ) G hr hg hm FD.kp hb (fun σ => passAt tk σ) ha hkw hall hks hdb he hpl) fun σ H Q q => read_pick hl m1 m2 (read_callN mf (mono_pick (mono_app m1 m2)) q)
theorem en_callG0 {k : Nat} {st : Stmt} {ps ks : List Str} {dds : List D} {sel : Sel} {F : Fn} (T : DefG X.prog X.w X.K X.mg X.base (L2.CX X.prog X.w) x st k ps dds (spN X.K X.mg F)) (B : BindG x st ps 0 ks sel dds.length) (hl : ∀ d ∈ dds, isLit d = true) (mf : MonoF F) (m2 : Mono g) (tk : Takes X W) (hr : Room k X.A)
    (hkw : PKn X W kws g) (hg : Gl X x := by rfl) (hall : (backToKw pos (keywordEach kws X.env)).all (·.1.isSome) = true := by rfl) (hks : (backToKw pos (keywordEach kws X.env)).filterMap (·.1) = ks := by rfl)
    (hdb : (x == ("__debug__" : Str)) = false := by decide)
    (hpl : ((backTo pos (starEach [] X.env)).any (·.1) || (backToKw pos (keywordEach kws X.env)).any (·.1.isNone)) = false := by rfl) : PEn X W (.Call (.Name x p) [] kws pos) (nCall F (nPick sel dds (nApp 0 ks.length (up aNil) g))) := by
  obtain ⟨fa, fd, hm, FD, G⟩ := T.ex
  obtain ⟨its, hb⟩ := kbn_of FD B
  exact PE.imp (pe_callG0 (E := fun σ => WE W σ) G hr hg hm FD.kp hb (fun σ => passAt tk σ) hkw hall hks hdb hpl) fun σ H Q q => by
    have q1 := read_pick hl mono_up m2 (read_callN mf (mono_pick (mono_app mono_up m2)) q)
    obtain ⟨F0, G0, ρ, κ, hk, R, q2⟩ := q1
    obtain ⟨r, ρ', e1, k⟩ := okQ.ex q2
    cases e1
    exact k [] G0 H hk (Same.refl _) R rfl
end
end M
namespace M
open PySem PySem.Spec PyProof.Rows L2 TL
def wNone : WX := fun _ _ _ _ => False
section
variable {P : Program} {w : World} {K : PySem.W.Frag} {mg : Str → Option Value} {base : Heap}
theorem fn_okND {x qual : Str} {params : Arguments} {bd : List Stmt} {scope : Scope} {dvs : List V} {kws : List (Str × V)} {f : Addr} {fd : FuncData} {N ps : List Str} {k : Nat} {body : NS} (F : FunD K x qual params bd scope dvs kws f fd) (S : FnScope N ps scope) (mb : Mono body)
    (hb : ∀ (cdv : Value) (A : Around) (outer : List Env) (s : Shared) (H : Hp) (E : XK), Room k (A.deeper (envOfC qual scope s.heap.objs.size f cdv)) →
      Takes (cxOf (L2.CX P w) P w K mg base N qual scope f cdv A outer s H E) (fun cls d _ H' => E cls d H') →
      PBn (cxOf (L2.CX P w) P w K mg base N qual scope f cdv A outer s H E) (fun cls d _ H' => E cls d H') bd body) : FnOk P w K mg base (L2.CX P w) (k + 1) f fd ps (spN K mg (runN N.length ps.length body)) := by
  refine F.ok S (fun vs H Q E h => ?_) (fun cdv A outer s H vs Q E hr h => ⟨_, hb cdv A outer s H E hr ?_, fn_bodyN mb h⟩)
  · obtain ⟨F, G, args, κ, hk, R, ht, hl, q⟩ := h
    have := R.rp.len
    simp at this
    omega
  · exact takes_of rfl rfl rfl rfl
theorem cells_nil {K : PySem.W.Frag} {G hk : Hp} (h : CellsOk K G hk []) : hk = fun _ => none := by
  funext p
  cases e : hk p with
  | none => rfl
  | some o =>
    obtain ⟨c, hc⟩ := h.only p o e
    cases hc
theorem fn_okNV {x qual : Str} {st : Stmt} {f : Addr} {fd : FuncData} {N ps : List Str} {k : Nat} {body : NS} {F : Fx} (Fn : Fun K x qual st f fd) (S : FnScope N ps (defScope st)) (mb : Mono body)
    (hF : ∀ args r as, F args = some (r, as) → runN N.length ps.length body args [] (fun r' as' κ' => r' = r ∧ as' = as ∧ κ' = []) (fun _ _ _ => False))
    (hb : ∀ (cdv : Value) (A : Around) (outer : List Env) (s : Shared) (H : Hp) (E : XK), Room k (A.deeper (envOfC qual (defScope st) s.heap.objs.size f cdv)) →
      PBn (cxOf CX0 P w K mg base N qual (defScope st) f cdv A outer s H E).nox wNone (defBody st) body) : FnOk P w K mg base CX0 (k + 1) f fd ps (spV K F) := by
  have key : ∀ vs H Q E, spV K F vs H Q E → spN K mg (runN N.length ps.length body) vs H Q (fun _ _ _ => False) := fun vs H Q E h => by
    obtain ⟨Fm, G, args, r, as, R, ht, e, q⟩ := h
    refine ⟨Fm, G, args, [], fun _ => none, ⟨⟨fun p c m => (by cases m), fun p o m => (by cases m)⟩, fun p o m => (by cases m), R⟩, ht, ?_⟩
    refine mono_run mb _ _ _ _ _ _ (fun r' as' κ' z => ?_) (fun _ _ _ z => z.elim) (hF args r as e)
    obtain ⟨rfl, rfl, rfl⟩ := z
    intro v G' H' hk' s' R' rr
    obtain rfl := cells_nil R'.cl
    exact q v G' H' s' R'.rp rr
  refine Fn.ok S (fun vs H Q E h => ?_) (fun cdv A outer s H vs Q E hr h => ⟨_, hb cdv A outer s H E hr, fn_bodyN (E := fun _ _ _ => False) mb (key _ _ _ _ h)⟩)
  obtain ⟨F, G, args, κ, hk, R, ht, hl, q⟩ := key _ _ _ _ h
  have := R.rp.len
  simp at this
  omega
end
end M
namespace M
open PySem PySem.Spec PyProof.Rows L2 TL
structure GDat (K : PySem.W.Frag) (mg : Str → Option Value) (x : Str) (d : D) : Prop where
  ex : ∃ (v : V) (u : Value), mg x = some u ∧ RelV v u ∧ ∀ G, RD K G d v
section
variable {K : PySem.W.Frag} {h : Heap} {mg : Str → Option Value}
theorem gtup_of (X : K.In h) (G : h.Ns mainGlobals mg) {x : Str} {f : Addr} {oc : Value} {od : Option Addr} {its : Array Value} {n : Nat} {sl : Array (Option Value)} {ds : List D} (xs : List V) (a : PySem.W.nsIn K mainGlobals x = some (some (.ref f)))
    (l : K.lookup f = some ⟨oc, od, .seq its n, sl⟩) (c : oc = .type "tuple") (hs : its.size ≤ sizeLine) (hv : Vals xs its.toList) (hr : ∀ G, RDs K G ds xs) : GDat K mg x (.tup ds) :=
  ⟨.ref f, _, PySem.W.mg_of X G a, rfl, fun _ => ⟨f, xs, rfl, .inr ⟨_, its, n, l, c, rfl, hs, hv⟩, hr _⟩⟩
theorem gbool_of (X : K.In h) (G : h.Ns mainGlobals mg) {x : Str} {b : Bool} (a : PySem.W.nsIn K mainGlobals x = some (some (.bool b))) : GDat K mg x (.bl b) :=
  ⟨.bl b, _, PySem.W.mg_of X G a, rfl, fun _ => rfl⟩
end
section
variable {X : Cx} {a b c e o : Expr} {es : List Expr} {fa fb fc : Ex} {fs : Ax} {pos p p2 pos2 apos cpos : Pos} {x : Str}
theorem ev_gdat {d : D} (h : GDat X.K X.mg x d) (hg : Gl X x := by rfl) (hdb : (x == ("__debug__" : Str)) = false := by decide) : PEv X (.Name x pos) (bC d) := by
  obtain ⟨v, u, hm, r, k⟩ := h.ex
  exact ev_const (pe_glob hg hm r hdb) k
def shrC (i j : Int) : Bool := decide (0 ≤ j)
def shrD : D → D → Option RV := iiD shrC fun i j => i / 2 ^ j.toNat
theorem ev_shr (ha : PEv X a fa) (hb : PEv X b fb) : PEv X (.BinOp a .RShift b pos) (bOp shrD fa fb) := ev_op op_shr (opd_ii fun i j h => by unfold shrC at h; exact of_decide_eq_true h) ha hb
def shlD : D → D → Option RV := iiD powC fun i j => i * 2 ^ j.toNat
theorem ev_shl (ha : PEv X a fa) (hb : PEv X b fb) : PEv X (.BinOp a .LShift b pos) (bOp shlD fa fb) := ev_op op_shl (opd_ii fun i j h => by unfold powC at h; have h1 := of_decide_eq_true h; exact h1) ha hb
def andD : D → D → Option RV := iiD (fun _ _ => true) fun i j => Builtin.bitAnd i j
theorem ev_band (ha : PEv X a fa) (hb : PEv X b fb) : PEv X (.BinOp a .BitAnd b pos) (bOp andD fa fb) := ev_op op_and opd_ii0 ha hb
def startsD (s : List Nat) : List D → Option RV
  | [.str t] => some (.d (.bl (Txt.startswith ⟨s.toArray⟩ ⟨t.toArray⟩)))
  | _ => none
def endsD (s : List Nat) : List D → Option RV
  | [.str t] => some (.d (.bl (Txt.endswith ⟨s.toArray⟩ ⟨t.toArray⟩)))
  | _ => none
theorem mtd_starts {K : PySem.W.Frag} : MtD K (fun x xs H Q => ∃ a b, x = .str a ∧ xs = [.str b] ∧ Q (.bl (Txt.startswith a b)) H) startsD := by
  intro G H s xs ds z sm hx e Q k
  unfold startsD at e
  split at e
  · cases e
    obtain ⟨v, rfl, q⟩ := ros1 hx
    exact ⟨_, _, rfl, by rw [q.str], k _ _ (.same rfl)⟩
  · cases e
theorem mtd_ends {K : PySem.W.Frag} : MtD K (fun x xs H Q => ∃ a b, x = .str a ∧ xs = [.str b] ∧ Q (.bl (Txt.endswith a b)) H) endsD := by
  intro G H s xs ds z sm hx e Q k
  unfold endsD at e
  split at e
  · cases e
    obtain ⟨v, rfl, q⟩ := ros1 hx
    exact ⟨_, _, rfl, by rw [q.str], k _ _ (.same rfl)⟩
  · cases e
theorem ev_starts {fo : Ex} (ho : PEv X o fo) (ha : PAv X (e :: es) fs) (hbase : attributeBase o "startswith" X.env (eval o X.env) = eval o X.env := by rfl)
    (hfew : ((backTo cpos (starEach (e :: es) X.env)).all (fun x => !x.1) && (backToKw cpos (keywordEach [] X.env)).all (fun x => x.1.isSome)
      && decide ((e :: es).length + ([] : List Keyword).length + (if ([] : List Keyword).isEmpty then 0 else 1) < 30)) = true := by rfl)
    (hline : (apos.endLine == cpos.line) = true := by rfl) (hs : starEach (e :: es) X.env = (false, eval e X.env) :: starEach es X.env := by rfl) (hplain : (backTo cpos (starEach es X.env)).any (·.1) = false := by rfl) :
    PEv X (.Call (.Attribute o "startswith" apos) (e :: es) [] cpos) (bMt startsD fo fs) :=
  PE.imp (pe_bm PySem.F.plainAttrs_str PySem.F.slot_str_startswith PySem.F.type_str_startswith mt_startswith ho ha hbase hfew hline hs hplain) fun _ _ _ h => read_mt mtd_starts h
theorem ev_ends {fo : Ex} (ho : PEv X o fo) (ha : PAv X (e :: es) fs) (hbase : attributeBase o "endswith" X.env (eval o X.env) = eval o X.env := by rfl)
    (hfew : ((backTo cpos (starEach (e :: es) X.env)).all (fun x => !x.1) && (backToKw cpos (keywordEach [] X.env)).all (fun x => x.1.isSome)
      && decide ((e :: es).length + ([] : List Keyword).length + (if ([] : List Keyword).isEmpty then 0 else 1) < 30)) = true := by rfl)
    (hline : (apos.endLine == cpos.line) = true := by rfl) (hs : starEach (e :: es) X.env = (false, eval e X.env) :: starEach es X.env := by rfl) (hplain : (backTo cpos (starEach es X.env)).any (·.1) = false := by rfl) :
    PEv X (.Call (.Attribute o "endswith" apos) (e :: es) [] cpos) (bMt endsD fo fs) :=
  PE.imp (pe_bm PySem.F.plainAttrs_str PySem.F.slot_str_endswith PySem.F.type_str_endswith mt_endswith ho ha hbase hfew hline hs hplain) fun _ _ _ h => read_mt mtd_ends h
theorem ev_dict0 : PEv X (.Dict [] [] pos) (bC (.dct [] [])) := PE.imp pe_dnewK fun σ H Q h => by
  obtain ⟨F, G, ρ, r, ρ', R, q, k⟩ := h
  cases q
  intro p hp
  exact k (.ref p) (upd G p (.dK [])) _ (Same.updN (R.gNone hp)) (R.newG hp) ⟨p, [], rfl, upd_same, rfl, rfl⟩
end
def keyD : L2.Key → D
  | .inl i => .int i
  | .inr s => .str (tl s)
def itemsOf : List L2.Key → List D → List D
  | k :: ks, x :: xs => .tup [keyD k, x] :: itemsOf ks xs
  | _, _ => []
def bItems (f : Ex) : Ex := fun ρ => match f ρ with
  | some (.d (.dct ks xs), ρ1) => some (.own (itemsOf ks xs), ρ1)
  | _ => none
def putTs (G : Hp) (ts : List Addr) (H : Hp) : Hp := fun b => if b ∈ ts then H b else G b
theorem rd_key {K : PySem.W.Frag} {G : Hp} (k : L2.Key) : RD K G (keyD k) (kV k) := by
  cases k with
  | inl i => rfl
  | inr s =>
    show V.str s = V.str ⟨(tl s).toArray⟩
    cases s
    simp [tl]
theorem rds_items {K : PySem.W.Frag} {G G' : Hp} (s : Same G G') : ∀ {ts : List Addr} {kvs : List (L2.Key × V)} {xs : List D}, Paired (fun (t : Addr) (q : L2.Key × V) => G' t = some (.tup [kV q.1, q.2])) ts kvs → RDs K G xs (kvs.map (·.2)) → RDs K G' (itemsOf (kvs.map (·.1)) xs) (ts.map V.ref)
  | _, _, [], .nil, h => rfl
  | _, _, d :: xs, .nil, h => by
    obtain ⟨_, _, e, _⟩ := h
    cases e
  | _, _, [], .cons h1 h2, h => by cases h
  | _, _, d :: xs, .cons h1 h2, ⟨x, us, e1, e2, e3⟩ => by
    cases e1
    exact ⟨_, _, rfl, ⟨_, _, rfl, SqT.of h1, _, _, rfl, rd_key _, _, _, rfl, RD.mono s _ _ e2, rfl⟩, rds_items s h2 e3⟩
section
variable {X : Cx} {e : Expr} {fe : Ex} {p apos cpos pos : Pos}
theorem ev_items (hc : X.calm = true) (he : PEv X e fe) (hg : Gl X "list") (hm : X.mg "list" = none) (hv : bootBuiltins "list" = some (.type "list")) (hbase : attributeBase e "items" X.env (eval e X.env) = eval e X.env := by rfl) (hline : (apos.endLine == cpos.line) = true := by rfl)
    (hs : starEach [.Call (.Attribute e "items" apos) [] [] cpos] X.env = (false, eval (.Call (.Attribute e "items" apos) [] [] cpos) X.env) :: starEach [] X.env := by rfl) :
    PEv X (.Call (.Name "list" p) [.Call (.Attribute e "items" apos) [] [] cpos] [] pos) (bItems fe) := PE.imp (LiI.pe_listItems hc he hg hm hv hbase hline hs) fun σ H Q h => by
  obtain ⟨F, G, ρ, r, ρ', R, q, k⟩ := h
  unfold bItems at q
  split at q
  rotate_left
  · cases q
  rename_i ks xs ρ1 e1
  cases q
  refine ⟨F, G, ρ, _, _, R, e1, fun v G1 H1 s1 R1 q1 => ?_⟩
  obtain ⟨d, kvs, rfl, hd, hks, hr⟩ := q1
  refine ⟨d, kvs, rfl, R1.gh _ _ hd, fun H' l ts sm hl hts nl hl' hp => ?_⟩
  let G2 : Hp := putTs G1 ts H'
  have g2 : Same G1 G2 := fun b u z => by
    show (if b ∈ ts then H' b else G1 b) = some u
    split
    · exact sm b u (R1.gh b u z)
    · exact z
  have g2h : Same G2 H' := fun b u z => by
    have z : (if b ∈ ts then H' b else G1 b) = some u := z
    split at z
    · exact z
    · exact sm b u (R1.gh b u z)
  have mem : ∀ b u, G2 b = some u → b ∈ ts ∨ G1 b = some u := fun b u z => by
    have z : (if b ∈ ts then H' b else G1 b) = some u := z
    split at z
    · rename_i h; exact .inl h
    · exact .inr z
  have pd : ∀ {ts' : List Addr} {kvs' : List (L2.Key × V)}, (∀ t ∈ ts', t ∈ ts) → Paired (fun (t : Addr) (q : L2.Key × V) => H' t = some (.tup [kV q.1, q.2])) ts' kvs' → Paired (fun (t : Addr) (q : L2.Key × V) => G2 t = some (.tup [kV q.1, q.2])) ts' kvs' := fun {ts' kvs'} hm hq => by
    induction hq with
    | nil => exact .nil
    | @cons a b l1 l2 h1 h2 ih =>
      refine .cons ?_ (ih fun t ht => hm t (List.mem_cons_of_mem _ ht))
      show (if a ∈ ts then H' a else G1 a) = _
      rw [if_pos (hm a List.mem_cons_self)]
      exact h1
  have no : ∀ {b u}, H1 b = some u → b ∉ ts := fun {b u} z y => by rw [hts b y] at z; cases z
  have R2 : Rep X.K F G2 H' σ ρ' := by
    refine ⟨g2h, fun b u z => sm b u (R1.fh b u z), fun b u z => ?_, R1.len, fun i x z => ?_, fun i b ys z => ?_, R1.sep⟩
    · have n1 := no (R1.fh b u z)
      show (if b ∈ ts then H' b else G1 b) = none
      rw [if_neg n1]; exact R1.fg b u z
    · obtain ⟨v, w1, w2⟩ := R1.dat i x z
      exact ⟨v, w1, RD.mono g2 _ _ w2⟩
    · obtain ⟨q, us, w1, w2, w3, w4, w5, w6⟩ := R1.own i b ys z
      refine ⟨q, us, w1, sm _ _ w2, ?_, w4, RDs.mono g2 _ _ w5, w6⟩
      show (if q ∈ ts then H' q else G1 q) = none
      rw [if_neg (no w2)]; exact w3
  refine k (.ref l) G2 H' (s1.trans g2) R2 ⟨l, ts.map V.ref, rfl, hl', ?_, R1.fNone hl, ?_, R1.oNe hl⟩
  · show (if l ∈ ts then H' l else G1 l) = none
    rw [if_neg nl]; exact R1.gNone hl
  · rw [← hks]
    exact rds_items g2 (pd (fun _ h => h) hp) hr
end
end M
namespace M
open PySem PySem.Spec PyProof.Rows L2 TL
def gRef (mg : Str → Option Value) (x : Str) : V := match mg x with
  | some (.ref f) => .ref f
  | _ => .non
theorem gRef_of {mg : Str → Option Value} {x : Str} {f : Addr} (h : mg x = some (.ref f)) : gRef mg x = .ref f := by
  unfold gRef; rw [h]
theorem ev_gref {X : Cx} {x : Str} {pos : Pos} (h : ∃ f, X.mg x = some (.ref f)) (hg : Gl X x := by rfl) (hdb : (x == ("__debug__" : Str)) = false := by decide) : PEv X (.Name x pos) (bC (.ptr (gRef X.mg x))) := by
  obtain ⟨f, hm⟩ := h
  rw [gRef_of hm]
  exact ev_const (v := .ref f) (pe_glob hg hm rfl hdb) fun G => rfl
theorem DefG.ref {P : Program} {w : World} {K : PySem.W.Frag} {mg : Str → Option Value} {base : Heap} {CX : CXT} {x : Str} {st : Stmt} {k : Nat} {ps : List Str} {dds : List D} {sp : Sp} (h : DefG P w K mg base CX x st k ps dds sp) : ∃ f, mg x = some (.ref f) := by
  obtain ⟨f, _, hm, _⟩ := h.ex
  exact ⟨f, hm⟩
section
variable {X : Cx} {CX : CXT} {k n : Nat} {f : Addr} {fd : FuncData} {ps ks : List Str} {sp : Sp} {E : L2.St → XK} {x y : Str} {p pos : Pos} {e : Expr} {es : List Expr} {kws : List Keyword} {t tk : TA} {g : List Value → List Value → List Value} {gV : List V → List V → List V}
def tCallGV (i : Nat) (f : Addr) (t : TE) : TE := fun σ H Q => σ[i]? = some (some (.ref f)) ∧ t σ H Q
theorem pe_callGV (i : Nat) (F : FnOk X.prog X.w X.K X.mg X.base CX k f fd ps sp) (hr : Room k X.A) (hp : PE X (.Name y p) (tVar i)) (hk : PySem.W.keepIn X.K (.ref f) = true) (hb : KBn X.K fd ps n ks g gV) (hx : ∀ σ, PassesAt CX X σ (E σ))
    (ha : PA X (e :: es) t) (hkw : PK X kws tk) (hall : (backToKw pos (keywordEach kws X.env)).all (·.1.isSome) = true := by rfl) (hks : (backToKw pos (keywordEach kws X.env)).filterMap (·.1) = ks := by rfl)
    (he : starEach (e :: es) X.env = (false, eval e X.env) :: starEach es X.env := by rfl)
    (hpl : ((backTo pos (starEach (e :: es) X.env)).any (·.1) || (backToKw pos (keywordEach kws X.env)).any (·.1.isNone)) = false := by rfl) :
    PE X (.Call (.Name y p) (e :: es) kws pos) (tCallGV i f (tCallG n ks.length sp gV E t tk)) := by
  refine ⟨fun pins s σ H Q I h => ?_⟩
  obtain ⟨h0, h⟩ := h
  refine wpAny_Call_Name_kw (thn (hp.run pins s σ H (fun v H' => v = .ref f ∧ H' = H) I ⟨.ref f, h0, rfl, rfl⟩) fun u s0 hh => ?_)
  obtain ⟨v, H0, I0, r0, rfl, rfl⟩ := hh
  obtain rfl : u = Value.ref f := r0
  refine PySem.W.callWith_KW (h₀ := X.base) I.ok.mod.kin hk hall (thn (ha.run pos pins s0 σ _ _ I0 h) fun us s1 ⟨vs, H1, I1, r, q⟩ => ?_) hpl he
  refine thn (hkw.run pos pins s1 σ H1 _ I1 q) fun ws s2 ⟨zs, H2, I2, rz, l1, l2, q2⟩ => ⟨I2.kIn, ?_⟩
  rw [hks]
  exact run_fnNS F hr hb (hx σ) I2 r rz l1 l2 q2
theorem pe_callGV0 (i : Nat) (F : FnOk X.prog X.w X.K X.mg X.base CX k f fd ps sp) (hr : Room k X.A) (hp : PE X (.Name y p) (tVar i)) (hk : PySem.W.keepIn X.K (.ref f) = true) (hb : KBn X.K fd ps 0 ks g gV) (hx : ∀ σ, PassesAt CX X σ (E σ))
    (hkw : PK X kws tk) (hall : (backToKw pos (keywordEach kws X.env)).all (·.1.isSome) = true := by rfl) (hks : (backToKw pos (keywordEach kws X.env)).filterMap (·.1) = ks := by rfl)
    (hpl : ((backTo pos (starEach [] X.env)).any (·.1) || (backToKw pos (keywordEach kws X.env)).any (·.1.isNone)) = false := by rfl) :
    PE X (.Call (.Name y p) [] kws pos) (tCallGV i f (tCallG 0 ks.length sp gV E tNil tk)) := by
  refine ⟨fun pins s σ H Q I h => ?_⟩
  obtain ⟨h0, h⟩ := h
  refine wpAny_Call_Name_kw (thn (hp.run pins s σ H (fun v H' => v = .ref f ∧ H' = H) I ⟨.ref f, h0, rfl, rfl⟩) fun u s0 hh => ?_)
  obtain ⟨v, H0, I0, r0, rfl, rfl⟩ := hh
  obtain rfl : u = Value.ref f := r0
  refine PySem.W.callWith_KW0 (h₀ := X.base) I.ok.mod.kin hk hall (thn (hkw.run pos pins s0 σ _ _ I0 h) fun ws s2 ⟨zs, H2, I2, rz, l1, l2, q2⟩ => ⟨I2.kIn, ?_⟩) hpl
  rw [hks]
  exact run_fnNS (vs := []) (us := []) F hr hb (hx σ) I2 .nil rz rfl l2 q2
end
def nIs (mg : Str → Option Value) (i : Nat) (x : Str) (f : NE) : NE := fun ρ κ Q E => dAt ρ i (.ptr (gRef mg x)) ∧ f ρ κ Q E
def nOr (f g : NE) : NE := fun ρ κ Q E => f ρ κ Q E ∨ g ρ κ Q E
theorem mono_is {mg : Str → Option Value} {i : Nat} {x : Str} {f : NE} (mf : Mono f) : Mono (nIs mg i x f) := fun ρ κ Q Q' E E' hq he h => ⟨h.1, mf _ _ _ _ _ _ hq he h.2⟩
theorem mono_or {f g : NE} (mf : Mono f) (mg : Mono g) : Mono (nOr f g) := fun ρ κ Q Q' E E' hq he h => h.imp (mf _ _ _ _ _ _ hq he) (mg _ _ _ _ _ _ hq he)
section
variable {X : Cx} {W : WX} {a e : Expr} {es : List Expr} {kws : List Keyword} {f g : NA} {fa fb : NE} {p pos : Pos} {x y : Str}
theorem en_or (h1 : PEn X W e fa) (h2 : PEn X W e fb) : PEn X W e (nOr fa fb) := ⟨fun pins s σ H Q I q => by
  obtain ⟨F, G, ρ, κ, hk, R, q⟩ := q
  rcases q with q | q
  · exact h1.run pins s σ H Q I ⟨F, G, ρ, κ, hk, R, q⟩
  · exact h2.run pins s σ H Q I ⟨F, G, ρ, κ, hk, R, q⟩⟩
theorem en_callGV {k n : Nat} {st : Stmt} {ps ks : List Str} {dds : List D} {sel : Sel} {F : Fn} (i : Nat) (T : DefG X.prog X.w X.K X.mg X.base (L2.CX X.prog X.w) x st k ps dds (spN X.K X.mg F)) (B : BindG x st ps n ks sel dds.length) (hl : ∀ d ∈ dds, isLit d = true) (mf : MonoF F) (m1 : Mono f) (m2 : Mono g) (tk : Takes X W) (hr : Room k X.A)
    (hp : PE X (.Name y p) (tVar i)) (ha : PAn X W (e :: es) f) (hkw : PKn X W kws g) (hall : (backToKw pos (keywordEach kws X.env)).all (·.1.isSome) = true := by rfl) (hks : (backToKw pos (keywordEach kws X.env)).filterMap (·.1) = ks := by rfl)
    (he : starEach (e :: es) X.env = (false, eval e X.env) :: starEach es X.env := by rfl)
    (hpl : ((backTo pos (starEach (e :: es) X.env)).any (·.1) || (backToKw pos (keywordEach kws X.env)).any (·.1.isNone)) = false := by rfl) : PEn X W (.Call (.Name y p) (e :: es) kws pos) (nIs X.mg i x (nCall F (nPick sel dds (nApp n ks.length f g)))) := by
  obtain ⟨fa, fd, hm, FD, G⟩ := T.ex
  obtain ⟨its, hb⟩ := kbn_of FD B
  refine PE.imp (pe_callGV (E := fun σ => WE W σ) i G hr hp FD.kp hb (fun σ => passAt tk σ) ha hkw hall hks he hpl) fun σ H Q q => ?_
  obtain ⟨F0, G0, ρ, κ, hk, R, h0, q⟩ := q
  obtain ⟨v, w1, w2⟩ := R.rp.dat _ _ h0
  have w2 : v = gRef X.mg x := w2
  rw [gRef_of hm] at w2
  subst w2
  exact ⟨w1, read_pick hl m1 m2 (read_callN mf (mono_pick (mono_app m1 m2)) ⟨F0, G0, ρ, κ, hk, R, q⟩)⟩
theorem en_callGV0 {k : Nat} {st : Stmt} {ps ks : List Str} {dds : List D} {sel : Sel} {F : Fn} (i : Nat) (T : DefG X.prog X.w X.K X.mg X.base (L2.CX X.prog X.w) x st k ps dds (spN X.K X.mg F)) (B : BindG x st ps 0 ks sel dds.length) (hl : ∀ d ∈ dds, isLit d = true) (mf : MonoF F) (m2 : Mono g) (tk : Takes X W) (hr : Room k X.A)
    (hp : PE X (.Name y p) (tVar i)) (hkw : PKn X W kws g) (hall : (backToKw pos (keywordEach kws X.env)).all (·.1.isSome) = true := by rfl) (hks : (backToKw pos (keywordEach kws X.env)).filterMap (·.1) = ks := by rfl)
    (hpl : ((backTo pos (starEach [] X.env)).any (·.1) || (backToKw pos (keywordEach kws X.env)).any (·.1.isNone)) = false := by rfl) : PEn X W (.Call (.Name y p) [] kws pos) (nIs X.mg i x (nCall F (nPick sel dds (nApp 0 ks.length (up aNil) g)))) := by
  obtain ⟨fa, fd, hm, FD, G⟩ := T.ex
  obtain ⟨its, hb⟩ := kbn_of FD B
  refine PE.imp (pe_callGV0 (E := fun σ => WE W σ) i G hr hp FD.kp hb (fun σ => passAt tk σ) hkw hall hks hpl) fun σ H Q q => ?_
  obtain ⟨F0, G0, ρ, κ, hk, R, h0, q⟩ := q
  obtain ⟨v, w1, w2⟩ := R.rp.dat _ _ h0
  have w2 : v = gRef X.mg x := w2
  rw [gRef_of hm] at w2
  subst w2
  have q1 := read_pick hl mono_up m2 (read_callN mf (mono_pick (mono_app mono_up m2)) ⟨F0, G0, ρ, κ, hk, R, q⟩)
  obtain ⟨F0, G0, ρ, κ, hk, R, q2⟩ := q1
  obtain ⟨r, ρ', e1, k⟩ := okQ.ex q2
  cases e1
  exact ⟨w1, k [] G0 H hk (Same.refl _) R rfl⟩
end
end M
namespace M
open PySem PySem.Spec PyProof.Rows L2 TL
theorem lits_ok {dds : List D} (h : dds.all isLit = true) : ∀ d ∈ dds, isLit d = true := List.all_eq_true.mp h
def aApp2 (n m : Nat) (f g : Ax) : Ax := fun ρ => match f ρ with
  | none => none
  | some (rs, ρ1) => match g ρ1 with
    | none => none
    | some (qs, ρ2) => if rs.length = n ∧ qs.length = m then some (rs ++ qs, ρ2) else none
def aPick (sel : Sel) (dds : List D) (f : Ax) : Ax := fun ρ => match f ρ with
  | none => none
  | some (rs, ρ1) => some (pickR sel rs dds, ρ1)
theorem read_call0 {K : PySem.W.Frag} {f : Fx} {fs : Ax} {E : XK} {σ : Sg} {H : Hp} {Q : VK} (h : tE K (bCall f fs) σ H Q) : tAr K fs σ H fun vs H1 => spV K f vs H1 Q E := by
  have h2 := read_call (E := E) h
  unfold tCall at h2
  simp only [List.append_nil] at h2
  exact h2
theorem read_pickV {K : PySem.W.Frag} {sel : Sel} {dds : List D} {n m : Nat} {f g : Ax} (hl : ∀ d ∈ dds, isLit d = true) {σ : Sg} {H : Hp} {Q : List V → Hp → Prop} (h : tAr K (aPick sel dds (aApp2 n m f g)) σ H Q) :
    tAr K f σ H fun vs H1 => tAr K g σ H1 fun zs H2 => vs.length = n ∧ zs.length = m ∧ Q (pick sel (vs ++ zs) (dds.map litV)) H2 := by
  obtain ⟨F, G, ρ, rs, ρ', R, e, k⟩ := h
  unfold aPick at e
  split at e
  · cases e
  rename_i r0 ρ0 e0
  cases e
  unfold aApp2 at e0
  split at e0
  · cases e0
  rename_i r1 ρ1 e1
  split at e0
  · cases e0
  rename_i r2 ρ2 e2
  split at e0
  rotate_left
  · cases e0
  rename_i hl2
  cases e0
  refine ⟨F, G, ρ, r1, ρ1, R, e1, fun vs G1 H1 s1 R1 q1 => ?_⟩
  refine ⟨F, G1, ρ1, r2, _, R1, e2, fun zs G2 H2 s2 R2 q2 => ?_⟩
  exact ⟨by rw [q1.len, hl2.1], by rw [q2.len, hl2.2], k _ G2 H2 (s1.trans s2) R2 (rns_pick hl (RNs.app2 (q1.mono s2) q2) sel)⟩
section
variable {X : Cx} {a e : Expr} {es : List Expr} {kws : List Keyword} {f g : Ax} {p pos : Pos} {x : Str}
theorem ev_callG {k n : Nat} {st : Stmt} {ps ks : List Str} {dds : List D} {sel : Sel} {F : Fx} (T : DefG X.prog X.w X.K X.mg X.base CX0 x st k ps dds (spV X.K F)) (B : BindG x st ps n ks sel dds.length) (hl : ∀ d ∈ dds, isLit d = true) (hr : Room k X.A)
    (ha : PAv X (e :: es) f) (hkw : PKv X kws g) (hg : Gl X x := by rfl) (hall : (backToKw pos (keywordEach kws X.env)).all (·.1.isSome) = true := by rfl) (hks : (backToKw pos (keywordEach kws X.env)).filterMap (·.1) = ks := by rfl)
    (hdb : (x == ("__debug__" : Str)) = false := by decide) (he : starEach (e :: es) X.env = (false, eval e X.env) :: starEach es X.env := by rfl)
    (hpl : ((backTo pos (starEach (e :: es) X.env)).any (·.1) || (backToKw pos (keywordEach kws X.env)).any (·.1.isNone)) = false := by rfl) : PEv X (.Call (.Name x p) (e :: es) kws pos) (bCall F (aPick sel dds (aApp2 n ks.length f g))) := by
  obtain ⟨fa, fd, hm, FD, G⟩ := T.ex
  obtain ⟨its, hb⟩ := kbn_of FD B
  exact PE.imp (pe_callG (E := fun _ => E0) G hr hg hm FD.kp hb (fun σ _ _ _ _ _ _ z => z.elim) ha hkw hall hks hdb he hpl) fun σ H Q q => read_pickV hl (read_call0 q)
theorem ev_callG0 {k : Nat} {st : Stmt} {ps ks : List Str} {dds : List D} {sel : Sel} {F : Fx} (T : DefG X.prog X.w X.K X.mg X.base CX0 x st k ps dds (spV X.K F)) (B : BindG x st ps 0 ks sel dds.length) (hl : ∀ d ∈ dds, isLit d = true) (hr : Room k X.A)
    (hkw : PKv X kws g) (hg : Gl X x := by rfl) (hall : (backToKw pos (keywordEach kws X.env)).all (·.1.isSome) = true := by rfl) (hks : (backToKw pos (keywordEach kws X.env)).filterMap (·.1) = ks := by rfl)
    (hdb : (x == ("__debug__" : Str)) = false := by decide)
    (hpl : ((backTo pos (starEach [] X.env)).any (·.1) || (backToKw pos (keywordEach kws X.env)).any (·.1.isNone)) = false := by rfl) : PEv X (.Call (.Name x p) [] kws pos) (bCall F (aPick sel dds (aApp2 0 ks.length aNil g))) := by
  obtain ⟨fa, fd, hm, FD, G⟩ := T.ex
  obtain ⟨its, hb⟩ := kbn_of FD B
  refine PE.imp (pe_callG0 (E := fun _ => E0) G hr hg hm FD.kp hb (fun σ _ _ _ _ _ _ z => z.elim) hkw hall hks hdb hpl) fun σ H Q q => ?_
  obtain ⟨F0, G0, ρ, rs, ρ', R, e0, k⟩ := read_pickV hl (read_call0 (E := E0) q)
  cases e0
  exact k [] G0 H (Same.refl _) R rfl
end
theorem exm_ok {K : PySem.W.Frag} {C D : Addr} {b : Bool} (h1 : PySem.W.subIn K (.ref D) (.type "BaseException") = some true) (h2 : PySem.W.isClsIn K D = true) (h3 : PySem.W.typeIn K (.ref D) = some (.type "type")) (h4 : PySem.W.subIn K (.ref C) (.ref D) = some b) : PySem.W.exmOne K (.ref C) (.ref D) = some b := by
  unfold PySem.W.exmOne
  rw [h1, if_pos (by decide)]
  unfold PySem.W.kitCls
  dsimp only
  have h2 : (PySem.W.clsIn K D).isSome = true := h2
  rw [h2, h3, if_pos (by decide), h4]
section
variable {K : PySem.W.Frag} {h : Heap} {mg : Str → Option Value}
theorem erf_of (X : K.In h) (G : h.Ns mainGlobals mg) {x qual : Str} {st : Stmt} {ns : List Str} {C f : Addr} {nm q : Str} {N : Addr} {bs bm : List Value} {sn : List Str} {sub : List Value} {ab : Bool} {col : Option Bool} {dd : Option Addr} {k0 k1 k2 k3 k5 : Option Value} {od an : Option Addr} {sl : Array (Option Value)} {oc kV dc pm cd ct : Value}
    (a : PySem.W.nsIn K mainGlobals x = some (some (.ref C))) (lC : K.lookup C = some (excClassObj nm q C N bs bm true sn sub ab col dd k0 k1 k2 k3 k5 "ValueError.__new__")) (hb : PySem.HandSPX.refsVE bm = true)
    (sa : PySem.W.findIn K (.ref C) "__setattr__" = some (some (.builtin "object.__setattr__"))) (exC : PySem.W.subIn K (.ref C) (.type "BaseException") = some true) (tyC : PySem.W.typeIn K (.ref C) = some (.type "type")) (kC : PySem.W.keepIn K (.ref C) = true)
    (ga : PySem.W.findIn K (.ref C) "__getattribute__" = some (some (.builtin "BaseException.__getattribute__"))) (gg : PySem.W.findIn K (.ref C) "__getattr__" = some none) (hdC : PySem.W.hasDictIn K C = true)
    (i1 : PySem.W.findIn K (.ref C) "__init__" = some (some (.ref f))) (tI : PySem.W.typeIn K (.ref f) = some (.type "function"))
    (l : K.lookup f = some ⟨oc, od, .func (PySem.W.fnOf "__init__" qual (defArgs st) (defBody st) (defScope st) .none kV dc pm an cd ct), sl⟩) (c : PySem.W.codeIn K cd qual = true) (k : PySem.W.keepIn K (.ref f) = true)
    (hn : ∀ n ∈ ns, PySem.W.findIn K (.ref C) n = some none) : ErF K mg x qual st ns :=
  ⟨C, f, _, PySem.W.mg_of X G a, ⟨⟨nm, q, N, bs, bm, sn, sub, ab, col, dd, k0, k1, k2, k3, k5, lC, hb⟩, sa, exC, tyC, kC⟩, ⟨ga, gg, exC, hdC⟩, hn, i1, tI, fun_mk l c k⟩
structure EcF (K : PySem.W.Frag) (mg : Str → Option Value) (ns : List Str) (p : Str × Addr) : Prop where
  m : mg p.1 = some (.ref p.2)
  ex : PySem.W.subIn K (.ref p.2) (.type "BaseException") = some true
  is : PySem.W.isClsIn K p.2 = true
  ty : PySem.W.typeIn K (.ref p.2) = some (.type "type")
  xf : XfC K p.2
  no : ∀ n ∈ ns, PySem.W.findIn K (.ref p.2) n = some none
theorem ecf_of (X : K.In h) (G : h.Ns mainGlobals mg) {ns : List Str} {x : Str} {C : Addr} (a : PySem.W.nsIn K mainGlobals x = some (some (.ref C))) (exC : PySem.W.subIn K (.ref C) (.type "BaseException") = some true) (is : PySem.W.isClsIn K C = true) (tyC : PySem.W.typeIn K (.ref C) = some (.type "type"))
    (ga : PySem.W.findIn K (.ref C) "__getattribute__" = some (some (.builtin "BaseException.__getattribute__"))) (gg : PySem.W.findIn K (.ref C) "__getattr__" = some none) (hdC : PySem.W.hasDictIn K C = true) (hn : ∀ n ∈ ns, PySem.W.findIn K (.ref C) n = some none) : EcF K mg ns (x, C) :=
  ⟨PySem.W.mg_of X G a, exC, is, tyC, ⟨ga, gg, exC, hdC⟩, hn⟩
theorem ertab_of {ns : List Str} {l : List (Str × Addr)} (h1 : ∀ p ∈ l, EcF K mg ns p) (h2 : ∀ p ∈ l, ∀ q ∈ l, PySem.W.subIn K (.ref p.2) (.ref q.2) = some (erIs p.1 q.1)) : ErTab K mg ns (l.map (·.1)) where
  cls c hc := by
    obtain ⟨p, hp, rfl⟩ := List.mem_map.mp hc
    exact ⟨p.2, (h1 p hp).m, (h1 p hp).xf, (h1 p hp).no⟩
  is c hc x hx C D e1 e2 := by
    obtain ⟨p, hp, rfl⟩ := List.mem_map.mp hc
    obtain ⟨q, hq, rfl⟩ := List.mem_map.mp hx
    obtain rfl : C = p.2 := by have := e1.symm.trans (h1 p hp).m; cases this; rfl
    obtain rfl : D = q.2 := by have := e2.symm.trans (h1 q hq).m; cases this; rfl
    exact exm_ok (h1 q hq).ex (h1 q hq).is (h1 q hq).ty (h2 p hp q hq)
end
end M
namespace M
open PySem PySem.Spec PyProof.Rows L2 TL
theorem takesN {X : Cx} : Takes X wNone := takes0
end M
namespace M
open PySem PySem.Spec PyProof.Rows L2 TL
theorem PS.nox {X : Cx} {st : Stmt} {t : TS} (h : PS X.nox st t) : PS X st t := ⟨fun pins s σ H D I hw =>
  wpAny_mono (h.run pins s σ H D (I.wish _) hw) (fun _ _ q => q.unwish) fun _ _ z => False.elim z⟩
theorem sv_nox {X : Cx} {st : Stmt} {s : Sx} (h : PSv X.nox st s) : PSv X st s := PS.nox h
theorem bv_nox {X : Cx} {st : List Stmt} {s : Sx} (h : PBv X.nox st s) : PBv X st s := PSs.nox h
theorem op_mul_str {X : Cx} : OpR X (binaryOp .Mult) (fun x y H Q => ∃ i n, x = .str i ∧ y = .int n ∧ MulOk i n ∧ Q (.str (Txt.mul i n)) H) := by
  intro pins s σ H x y v u Q I rx ry h
  obtain ⟨i, n, rfl, rfl, hz, q⟩ := h
  obtain ⟨t, rfl⟩ := rx
  obtain ⟨t', rfl⟩ := ry
  exact SB.mul hz (fun t' tk => ⟨.str _, H, I.tok _, ⟨_, rfl⟩, q⟩)
theorem foldl_reps (c : Array Nat) : ∀ (k : Nat) (acc : Array Nat), (List.replicate k c).foldl (· ++ ·) acc = ⟨acc.toList ++ (List.replicate k c.toList).flatten⟩
  | 0, acc => by simp
  | k + 1, acc => by
    rw [List.replicate_succ, List.foldl_cons, foldl_reps c k, List.replicate_succ, List.flatten_cons]
    simp
theorem txt_mul (s : List Nat) (n : Int) : Txt.mul ⟨s.toArray⟩ n = ⟨(List.replicate n.toNat s).flatten.toArray⟩ := by
  unfold Txt.mul
  by_cases h1 : n < 1
  · rw [if_pos h1]
    have : n.toNat = 0 := by omega
    rw [this]; rfl
  · rw [if_neg h1]
    split
    · rename_i hc
      rw [Bool.or_eq_true, beq_iff_eq, beq_iff_eq] at hc
      rcases hc with h | h
      · subst h; simp
      · have : s = [] := by
          cases s with
          | nil => rfl
          | cons a l => simp [Str.length] at h
        subst this
        simp
    · rw [foldl_reps]
      simp
def mulS : D → D → Option RV
  | .str s, .int n => if -(2 ^ 63) ≤ n ∧ n.toNat ≤ 16777216 ∧ s.length * n.toNat ≤ 16777216 then some (.d (.str (List.replicate n.toNat s).flatten)) else none
  | _, _ => none
theorem opd_mulS {K : PySem.W.Frag} : OpD K (fun x y H Q => ∃ i n, x = .str i ∧ y = .int n ∧ MulOk i n ∧ Q (.str (Txt.mul i n)) H) mulS := by
  intro G H x y dx dy z s hx hy e Q k
  unfold mulS at e
  split at e
  · split at e
    · rename_i a n h
      cases e
      refine ⟨_, n, hx.str, hy.int, mulOk_of a.length n.toNat (by simp [Str.length]) (by omega) h.1 h.2.1 h.2.2, ?_⟩
      rw [txt_mul]
      exact k _ _ (.same rfl)
    · cases e
  · cases e
theorem ev_mulS {X : Cx} {a b : Expr} {fa fb : Ex} {pos : Pos} (ha : PEv X a fa) (hb : PEv X b fb) : PEv X (.BinOp a .Mult b pos) (bOp mulS fa fb) := ev_op op_mul_str opd_mulS ha hb
def mulL : D → D → Option RV
  | .lst s, .int n => if -(2 ^ 63) ≤ n ∧ n < 2 ^ 63 ∧ s.length * n.toNat ≤ 16777216 then some (.own (List.replicate n.toNat s).flatten) else none
  | _, _ => none
theorem opd_mulL {K : PySem.W.Frag} : OpD K rRep mulL := by
  intro G H x y dx dy z s hx hy e Q k
  unfold mulL at e
  split at e
  · split at e
    · rename_i a n h
      cases e
      obtain ⟨p, vs, e1, e2, e3⟩ := hx.lst s
      refine ⟨p, n, vs, e1, hy.int, e2, h.1, h.2.1, by rw [sizeLine_num, e3.length]; exact h.2.2, fun l hl => k _ _ (.lst hl (e3.rep _))⟩
    · cases e
  · cases e
theorem ev_mulL {X : Cx} {a b : Expr} {fa fb : Ex} {pos : Pos} (ha : PEv X a fa) (hb : PEv X b fb) : PEv X (.BinOp a .Mult b pos) (bOp mulL fa fb) := ev_op op_rep opd_mulL ha hb
end M
namespace M
open PySem PySem.Spec PyProof.Rows L2 TL
theorem turn_long {P : Program} {w : World} {K : PySem.W.Frag} {tg : Expr} (it : Addr) (lo : Int) (n : Nat) : Turn P w K tg (Itr lo n) [it] it (fun i h => IsLongIter h it (lo + (i : Nat) * 1) ((n : Int) - (i : Nat)) 1) where
  mem := by simp
  obj := fun i h st b hb => by
    have e : b = it := by simpa using hb
    subst e
    exact ⟨_, st, fun v z => by
      have z' : Data.fields _ = Data.cell v := z
      cases z'⟩
  keep := fun i h h' st k => k it (by simp) _ st
  item := by
    intro X hP hw hK hc i pins s σ H E I hf st hg
    subst hP hw hK
    obtain ⟨f0, f1, f2, f3, f4, f5⟩ := hf it (by simp)
    have W := Walks.longrange (prog := X.prog) (w := X.w) (I.ok.hd hc) it lo 1 n
    refine W.item i s _ _ hg st fun v h' tk hv st' kk => ?_
    obtain ⟨t, rfl⟩ := hv
    have I1 : Inv X pins σ H { s with heap := h', toks := tk } := I.turned (fun b o hb e => kk b o (by simpa using hb) e) f0 f1 f3 f4 f5
    refine ⟨_, rfl, go_of (s := { s with heap := h', toks := tk }) (n := "longrange_iterator") st' rfl rfl (by decide) ⟨.int (lo + i), H, I1, ⟨t, ?_⟩, ⟨rfl, rfl⟩, st', fun b hb => (hf b hb).1⟩⟩
    rw [Int.mul_one]
  done := by
    intro X hP hw hK hc i pins s σ H E I hf st hg
    subst hP hw hK
    obtain ⟨f0, f1, f2, f3, f4, f5⟩ := hf it (by simp)
    exact wpAny_pyNext_long_end (I.ok.hd hc) st (by have : n ≤ i := hg; omega) fun h' eb => ⟨rfl, I.turned (t' := s.toks) (fun b o hb e => eb b o hb e) f0 f1 f3 f4 f5⟩
  self := fun _ _ _ _ _ st h => wpAny_pyIter_longiter st h
theorem range_itB {X : Cx} {tg : Expr} {pins : List (Addr × Obj)} {σ : L2.St} {H : Hp} {s : Shared} {R : It → Hp → Prop} {E : Value → Shared → Prop} {lo hi : Int} {t u v : Tok} {tk : Nat} (I : Inv X pins σ H s)
    (q : R (Itr lo (hi - lo).toNat) H) : wpAny (model X.prog X.w) X.A (pyIter (.ref s.heap.objs.size)) (PIE X pins σ tg R) E { s with heap := s.heap.push { cls := .type "range", data := .fields #[.int lo t, .int hi u, .int 1 v] }, toks := tk } := by
  have I1 : Inv X pins σ H { s with heap := s.heap.push { cls := .type "range", data := .fields #[.int lo t, .int hi u, .int 1 v] }, toks := tk } := I.kept fun b o e => Heap.get?_push_of_some _ e
  have e1 : lo + ((0 : Nat) : Int) * 1 = lo := by simp
  have e2 : (((hi - lo).toNat : Nat) : Int) - ((0 : Nat) : Int) = Builtin.Range.rangeSize lo hi 1 := by rw [rangeSize_one]; split <;> omega
  cases hs : Builtin.Range.small lo hi 1 with
  | true =>
    refine wpAny_pyIter_range (IsRange.new ..) hs ?_
    refine ⟨(s.heap.push { cls := .type "range", data := .fields #[.int lo t, .int hi u, .int 1 v] }).objs.size, [(s.heap.push { cls := .type "range", data := .fields #[.int lo t, .int hi u, .int 1 v] }).objs.size], _, _, H, rfl,
      I1.kept (t' := tk) fun b o e => Heap.get?_push_of_some _ e, turn_range _ lo (hi - lo).toNat, ?_, fun b hb => ?_, q⟩
    · show IsRangeIter _ _ (lo + ((0 : Nat) : Int) * 1) ((((hi - lo).toNat : Nat) : Int) - ((0 : Nat) : Int)) 1
      rw [e1, e2]
      exact Heap.get?_push_size _ rfl
    · have e : b = (s.heap.push { cls := .type "range", data := .fields #[.int lo t, .int hi u, .int 1 v] }).objs.size := by simpa using hb
      subst e
      exact I1.fpOk (Nat.le_refl _) (I1.hok.fresh (Nat.le_refl _))
  | false =>
    refine wpAny_pyIter_longrange (IsRange.new ..) hs ?_
    refine ⟨(s.heap.push { cls := .type "range", data := .fields #[.int lo t, .int hi u, .int 1 v] }).objs.size, [(s.heap.push { cls := .type "range", data := .fields #[.int lo t, .int hi u, .int 1 v] }).objs.size], _, _, H, rfl,
      I1.kept (t' := tk) fun b o e => Heap.get?_push_of_some _ e, turn_long _ lo (hi - lo).toNat, ?_, fun b hb => ?_, q⟩
    · show IsLongIter _ _ (lo + ((0 : Nat) : Int) * 1) ((((hi - lo).toNat : Nat) : Int) - ((0 : Nat) : Int)) 1
      rw [e1, e2]
      exact Heap.get?_push_size _ rfl
    · have e : b = (s.heap.push { cls := .type "range", data := .fields #[.int lo t, .int hi u, .int 1 v] }).objs.size := by simpa using hb
      subst e
      exact I1.fpOk (Nat.le_refl _) (I1.hok.fresh (Nat.le_refl _))
def iRngB (ta : TA) : TI := fun σ H R => ta σ H fun vs H1 => ∃ i j : Int, vs = [.int i, .int j] ∧ R (Itr i (j - i).toNat) H1
theorem pi_rangeB {X : Cx} {tg : Expr} {a b : Expr} {ta : TA} {p pos : Pos} (hg : Gl X "range") (hm : X.mg "range" = none) (ha : PA X [a, b] ta) (hs : starEach [a, b] X.env = [(false, eval a X.env), (false, eval b X.env)] := by rfl) (hs2 : starEach [b] X.env = [(false, eval b X.env)] := by rfl) :
    PI X tg (.Call (.Name "range" p) [a, b] [] pos) (iRngB ta) := by
  refine ⟨fun pins s σ H R I h => ?_⟩
  refine Call_ (ld_blt I hg hm PyProof.Rows.boot_range (PyProof.Rows.callWith_type1 (thn (ha.run pos pins s σ H _ I h) fun us s1 ⟨vs, H1, I1, r1, q1⟩ => ?_) (by rw [hs, hs2]) (by rw [hs2]; rfl)))
  obtain ⟨i, j, e, q⟩ := q1
  subst e
  cases r1 with
  | cons r rr =>
    cases rr with
    | cons r' rr =>
      cases rr
      obtain ⟨t, rfl⟩ := r
      obtain ⟨t', rfl⟩ := r'
      exact call_range_2 (range_itB I1 q)
def iRangeB (f g : Ex) : Ix := fun ρ => match f ρ with
  | some (.d (.int i), ρ1) => match g ρ1 with
    | some (.d (.int j), ρ2) => some ((List.range (j - i).toNat).map fun k : Nat => D.int (i + (k : Int)), ρ2)
    | _ => none
  | _ => none
theorem iv_rangeB {X : Cx} {p pos : Pos} {tg a b : Expr} {f g : Ex} (hg : Gl X "range") (hm : X.mg "range" = none) (h : PEv X a f) (h2 : PEv X b g) (hst : starEach [a, b] X.env = [(false, eval a X.env), (false, eval b X.env)] := by rfl) (hst2 : starEach [b] X.env = [(false, eval b X.env)] := by rfl) :
    PIv X tg (.Call (.Name "range" p) [a, b] [] pos) (iRangeB f g) := by
  refine iv_of (pi_rangeB hg hm (pa_cons h (pa_cons h2 pa_nil hst2) (by rw [hst, hst2])) hst hst2) fun σ H R h => ?_
  obtain ⟨F, G, ρ, xs, ρ', R0, e, k⟩ := h
  unfold iRangeB at e
  split at e
  rotate_left
  · cases e
  rename_i i ρ1 e1
  split at e
  rotate_left
  · cases e
  rename_i j ρ2 e2
  cases e
  refine ⟨F, G, ρ, _, ρ1, R0, e1, fun v G1 H1 s1 R1 q1 => ⟨F, G1, ρ1, _, _, R1, e2, fun w G2 H2 s2 R2 q2 => ⟨i, j, by cases (show v = .int i from q1); cases (show w = .int j from q2); rfl, ?_⟩⟩⟩
  exact k _ H2 G2 (s1.trans s2) R2 jok_range
end M
namespace M
open PySem PySem.Spec PyProof.Rows L2 TL
def stepN (i j c : Int) : Nat := if i < j then ((j - i - 1) / c + 1).toNat else 0
theorem RgC.up {i j c : Int} (hc : 0 < c) (hc2 : c < 1073741824) (ha : -1099511627776 ≤ i) (ha' : i ≤ 1099511627776) (hb : -1099511627776 ≤ j) (hb' : j ≤ 1099511627776) : RgC i j c (stepN i j c) := by
  have e : Builtin.Range.rangeSize i j c = (stepN i j c : Nat) := by
    unfold Builtin.Range.rangeSize stepN
    rw [if_pos hc]
    split
    · have : 0 ≤ (j - i - 1) / c := Int.ediv_nonneg (by omega) (by omega)
      omega
    · rfl
  have hn : (stepN i j c : Int) ≤ 2199023255553 := by
    unfold stepN
    split
    · have h1 : 0 ≤ (j - i - 1) / c := Int.ediv_nonneg (by omega) (by omega)
      have h2 : (j - i - 1) / c ≤ j - i - 1 := Int.ediv_le_self _ (by omega)
      omega
    · omega
  refine ⟨by omega, by omega, ?_, e⟩
  unfold Builtin.Range.small
  rw [e]
  have hc' : c > 0 := hc
  rw [if_pos hc']
  simp only [Builtin.Range.rangeFitsLong, Bool.and_eq_true, Bool.or_eq_true, decide_eq_true_eq, beq_iff_eq]
  refine ⟨⟨⟨⟨by omega, by omega⟩, by omega⟩, by omega⟩, .inr (by omega)⟩
def iRangeU (f g h : Ex) : Ix := fun ρ => match f ρ with
  | some (.d (.int i), ρ1) => match g ρ1 with
    | some (.d (.int j), ρ2) => match h ρ2 with
      | some (.d (.int c), ρ3) => if (0 < c ∧ c < 1073741824) ∧ -1099511627776 ≤ i ∧ i ≤ 1099511627776 ∧ -1099511627776 ≤ j ∧ j ≤ 1099511627776 then some ((List.range (stepN i j c)).map fun k : Nat => D.int (i + (k : Int) * c), ρ3) else none
      | _ => none
    | _ => none
  | _ => none
section
variable {X : Cx} {a b c e : Expr} {es : List Expr} {fa fb fc : Ex} {pos p : Pos}
theorem iv_rangeU {tg : Expr} (hg : Gl X "range") (hm : X.mg "range" = none) (h : PEv X a fa) (h2 : PEv X b fb) (h3 : PEv X c fc) (hst : starEach [a, b, c] X.env = (false, eval a X.env) :: starEach [b, c] X.env := by rfl) (hst2 : starEach [b, c] X.env = (false, eval b X.env) :: starEach [c] X.env := by rfl)
    (hst3 : starEach [c] X.env = (false, eval c X.env) :: starEach [] X.env := by rfl) (hpl : (backTo pos (starEach [b, c] X.env)).any (·.1) = false := by rfl) :
    PIv X tg (.Call (.Name "range" p) [a, b, c] [] pos) (iRangeU fa fb fc) := by
  refine iv_of (pi_range3 hg hm (pa_cons h (pa_cons h2 (pa_cons h3 pa_nil hst3) hst2) hst) hst hpl) fun σ H R h => ?_
  obtain ⟨F, G, ρ, xs, ρ', R0, e, k⟩ := h
  unfold iRangeU at e
  split at e
  rotate_left
  · cases e
  rename_i i ρ1 e1
  split at e
  rotate_left
  · cases e
  rename_i j ρ2 e2
  split at e
  rotate_left
  · cases e
  rename_i c ρ3 e3
  split at e
  rotate_left
  · cases e
  rename_i hb
  cases e
  obtain ⟨⟨c1, c2⟩, b1, b2, b3, b4⟩ := hb
  refine ⟨F, G, ρ, _, ρ1, R0, e1, fun v G1 H1 s1 R1 q1 => ⟨F, G1, ρ1, _, ρ2, R1, e2, fun w G2 H2 s2 R2 q2 => ⟨F, G2, ρ2, _, _, R2, e3, fun u G3 H3 s3 R3 q3 => ?_⟩⟩⟩
  cases (show v = .int i from q1)
  cases (show w = .int j from q2)
  cases (show u = .int c from q3)
  exact ⟨i, j, c, _, rfl, RgC.up c1 c2 b1 b2 b3 b4, k _ H3 G3 ((s1.trans s2).trans s3) R3 jok_rangeC⟩
end
end M
namespace M
open PySem PySem.Spec PyProof.Rows L2 TL
def truD : D → Option Bool
  | .non => some false
  | .bl b => some b
  | .int i => some (i != 0)
  | .str s => if s.length ≤ 16777216 then some (!s.isEmpty) else none
  | .lst xs => some (!xs.isEmpty)
  | .scr xs => some (!xs.isEmpty)
  | .tup xs => some (!xs.isEmpty)
  | .dct ks _ => some (!ks.isEmpty)
  | _ => none
def bTr (f : Ex) : Tx := fun ρ => match f ρ with
  | none => none
  | some (r, ρ1) => match pk ρ1 r.nrm with
    | none => none
    | some d => (truD d).map fun b => (b, ρ1)
theorem isEmpty_rds {K : PySem.W.Frag} {G : Hp} {ds : List D} {vs : List V} (h : RDs K G ds vs) : vs.isEmpty = ds.isEmpty := by
  have := h.length
  cases ds <;> cases vs <;> simp_all
theorem tru_of {K : PySem.W.Frag} {G H : Hp} {d : D} {v : V} {b : Bool} (s : Same G H) (r : RO K G H d v) (e : truD d = some b) : TruV K v H b := by
  cases d with
  | non => cases e; rw [r.non]; exact rfl
  | bl c => cases e; rw [r.bl]; exact rfl
  | int i => cases e; rw [r.int]; exact rfl
  | str t =>
    have e : (if t.length ≤ 16777216 then some (!t.isEmpty) else none) = some b := e
    split at e
    · rename_i hl
      cases e
      rw [r.str]
      refine ⟨by rw [sizeLine_num]; simpa [Str.length] using hl, ?_⟩
      cases t with
      | nil => rfl
      | cons c l =>
        show true = ((((c :: l).length : Nat) : Int) != 0)
        have h : ((((c :: l).length : Nat) : Int) != 0) = true := by
          rw [bne_iff_ne]
          simp only [List.length_cons]
          omega
        exact h.symm
    · cases e
  | lst ys =>
    cases e
    obtain ⟨p, vs, rfl, f2, f3⟩ := r.lst s
    exact .inl ⟨vs, SqL.of f2, by rw [isEmpty_rds f3]⟩
  | scr ys =>
    cases e
    obtain ⟨p, vs, rfl, f2, f3⟩ := r.scr s
    exact .inl ⟨vs, f2, by rw [isEmpty_rds f3]⟩
  | tup ys =>
    cases e
    obtain ⟨p, vs, rfl, f2, f3⟩ := r.tup s
    exact .inr (.inl ⟨vs, f2, by rw [isEmpty_rds f3]⟩)
  | dct ks ys =>
    cases e
    obtain ⟨p, kvs, rfl, f2, f3, f4⟩ := r.dct s
    refine .inr (.inr ⟨kvs, f2, ?_⟩)
    subst f3
    cases kvs <;> rfl
  | _ => cases e
theorem tv_tru {X : Cx} {e : Expr} {fa : Ex} (h : PEv X e fa) (he : ∀ whole, isTrue e X.env whole = (do let v ← whole; standAt e.pos; holding [v] (truthy v)) := by intro _; rfl) : PTv X e (bTr fa) :=
  PT.imp (pt_truth h he) fun σ H Q q => by
    obtain ⟨F, G, ρ, b, ρ', R, q, k⟩ := q
    unfold bTr at q
    split at q
    · cases q
    rename_i r ρ1 e1
    split at q
    · cases q
    rename_i d e2
    obtain ⟨c, ec, eq⟩ := Option.map_eq_some_iff.mp q
    cases eq
    refine ⟨F, G, ρ, r, _, R, e1, fun v G1 H1 s1 R1 q1 => ?_⟩
    obtain ⟨G2, t2, R2, n2⟩ := nrm_step R1 q1
    exact ⟨b, tru_of R2.gh (pk_ro R2 n2 e2) ec, k G2 H1 (s1.trans t2) R2⟩
end M
namespace M
open PySem PySem.Spec PyProof.Rows L2 TL
@[irreducible] def wN (F : Fn) (as : List SV) (κ : Ck) (Q : RV → List SV → Ck → Prop) (E : Er → List SV → Ck → Prop) (_ : Dep Q := .mk) (_ : Dep E := .mk) : Prop := F as κ Q E
theorem wN_def {F : Fn} {as : List SV} {κ : Ck} {Q : RV → List SV → Ck → Prop} {E : Er → List SV → Ck → Prop} : wN F as κ Q E ↔ F as κ Q E := by
  unfold wN
  exact Iff.rfl
section
variable {ρ : Sl} {κ : Ck} {fa fb fc : Ex} {c d : Tx} {fs : Ax} {s : Sx} {f g : NS} {t : NT} {na nb : NE} {ns ms : NA} {i j n m : Nat} {E : Er → Sl → Ck → Prop}
@[simp ↓] theorem up_E {Q : RV → Sl → Ck → Prop} : up fa ρ κ Q E ↔ wE fa ρ fun r ρ' => Q r ρ' κ := Iff.rfl
@[simp ↓] theorem up_T {Q : Bool → Sl → Ck → Prop} : up c ρ κ Q E ↔ wT c ρ fun r ρ' => Q r ρ' κ := Iff.rfl
@[simp ↓] theorem up_A {Q : List RV → Sl → Ck → Prop} : up fs ρ κ Q E ↔ wA fs ρ fun r ρ' => Q r ρ' κ := Iff.rfl
@[simp ↓] theorem up_S {Q : Fl → Sl → Ck → Prop} : up s ρ κ Q E ↔ wS s ρ fun r ρ' => Q r ρ' κ := Iff.rfl
def thenN (g : NS) (Q : Fl → Sl → Ck → Prop) (E : Er → Sl → Ck → Prop) : Fl → Sl → Ck → Prop := fun fl ρ κ => match fl with
  | .nx => g ρ κ Q E
  | o => Q o ρ κ
section
variable {Q : Fl → Sl → Ck → Prop}
@[simp ↓] theorem thenN_nx : thenN g Q E .nx ρ κ ↔ g ρ κ Q E := Iff.rfl
@[simp ↓] theorem thenN_bk : thenN g Q E .bk ρ κ ↔ Q .bk ρ κ := Iff.rfl
@[simp ↓] theorem thenN_ct : thenN g Q E .ct ρ κ ↔ Q .ct ρ κ := Iff.rfl
@[simp ↓] theorem thenN_rt {r : RV} : thenN g Q E (.rt r) ρ κ ↔ Q (.rt r) ρ κ := Iff.rfl
@[simp ↓] theorem n_Seq : nSeq f g ρ κ Q E ↔ f ρ κ (thenN g Q E) E := by
  have e : (fun (fl : Fl) (ρ1 : Sl) (κ1 : Ck) => match fl with
    | .nx => g ρ1 κ1 Q E
    | o => Q o ρ1 κ1) = thenN g Q E := by
    funext fl ρ1 κ1
    cases fl <;> rfl
  unfold nSeq
  exact Iff.of_eq (congrArg (fun q => f ρ κ q E) e)
@[simp ↓] theorem n_Drop : nDrop na ρ κ Q E ↔ na ρ κ (fun _ ρ1 κ1 => Q .nx ρ1 κ1) E := Iff.rfl
@[simp ↓] theorem n_Ret : nRet na ρ κ Q E ↔ na ρ κ (fun r ρ1 κ1 => Q (.rt r) ρ1 κ1) E := Iff.rfl
@[simp ↓] theorem n_Set : nSet i na ρ κ Q E ↔ na ρ κ (fun r ρ1 κ1 => oq (putR i r ρ1) fun ρ2 => Q .nx ρ2 κ1) E := Iff.rfl
def ifN {α : Type} (f g : Nx α) (Q : α → Sl → Ck → Prop) (E : Er → Sl → Ck → Prop) : Bool → Sl → Ck → Prop := fun b ρ κ => match b with
  | true => f ρ κ Q E
  | false => g ρ κ Q E
@[simp ↓] theorem ifN_t {α : Type} {f g : Nx α} {Q : α → Sl → Ck → Prop} : ifN f g Q E true ρ κ ↔ f ρ κ Q E := Iff.rfl
@[simp ↓] theorem ifN_f {α : Type} {f g : Nx α} {Q : α → Sl → Ck → Prop} : ifN f g Q E false ρ κ ↔ g ρ κ Q E := Iff.rfl
theorem ifN_dec {α : Type} {f g : Nx α} {Q : α → Sl → Ck → Prop} {b : Bool} : ifN f g Q E b ρ κ ↔ if b = true then f ρ κ Q E else g ρ κ Q E := by cases b <;> simp
@[simp ↓] theorem n_If : nIf t f g ρ κ Q E ↔ t ρ κ (ifN f g Q E) E := by
  have e : (fun (b : Bool) (ρ1 : Sl) (κ1 : Ck) => (if b = true then f else g) ρ1 κ1 Q E) = ifN f g Q E := by
    funext b ρ1 κ1
    cases b <;> rfl
  unfold nIf nBind
  exact Iff.of_eq (congrArg (fun q => t ρ κ q E) e)
@[simp ↓] theorem n_Raise {c : Str} {fn : List Str} : nRaise c fn ns ρ κ Q E ↔ ns ρ κ (fun rs ρ1 κ1 => oq (dsOf rs) fun ds => ds.length = fn.length ∧ E ⟨c, fn.reverse, ds.reverse⟩ ρ1 κ1) E := Iff.rfl
@[simp ↓] theorem n_Try {l : List Str} {hs : List Hn} : nTry l f hs ρ κ Q E ↔ f ρ κ Q (fun er ρ1 κ1 => er.c ∈ l ∧ nHd er ρ1 κ1 Q E hs) := Iff.rfl
theorem nHd_nil {er : Er} : nHd er ρ κ Q E [] ↔ E er ρ κ := Iff.rfl
theorem nHd_no {er : Er} {x : Str} {oi : Option Nat} {sf : Addr → Addr → Sx} {r : List Hn} (h : erIs er.c x = false) : nHd er ρ κ Q E ((x, oi, sf) :: r) ↔ nHd er ρ κ Q E r := by
  conv => lhs; unfold nHd
  rw [if_neg (by rw [h]; exact Bool.false_ne_true)]
theorem nHd_yes {er : Er} {x : Str} {i : Nat} {sf : Addr → Addr → Sx} {r : List Hn} (h : erIs er.c x = true) : nHd er ρ κ Q E ((x, some i, sf) :: r) ↔ er.ns ≠ [] ∧ ∀ a dd, wS (sf a dd) (ρ.set i (some (.d (.exn a dd er.ns er.xs)))) fun fl ρ' => Q fl (dropS (some i) fl ρ') κ := by
  conv => lhs; unfold nHd
  rw [if_pos h]
  exact Iff.rfl
theorem nHd_yes0 {er : Er} {x : Str} {sf : Addr → Addr → Sx} {r : List Hn} (h : erIs er.c x = true) : nHd er ρ κ Q E ((x, none, sf) :: r) ↔ ∀ a dd : Addr, wS (sf a dd) ρ fun fl ρ' => Q fl (dropS none fl ρ') κ := by
  conv => lhs; unfold nHd
  rw [if_pos h]
  exact Iff.rfl
@[simp] theorem dropS_rt {oi : Option Nat} {r : RV} : dropS oi (.rt r) ρ = ρ := by cases oi <;> rfl
end
section
variable {Q : RV → Sl → Ck → Prop}
@[simp ↓] theorem n_IfE : nIfE t na nb ρ κ Q E ↔ t ρ κ (ifN na nb Q E) E := by
  have e : (fun (b : Bool) (ρ1 : Sl) (κ1 : Ck) => (if b = true then na else nb) ρ1 κ1 Q E) = ifN na nb Q E := by
    funext b ρ1 κ1
    cases b <;> rfl
  unfold nIfE nBind
  exact Iff.of_eq (congrArg (fun q => t ρ κ q E) e)
@[simp ↓] theorem n_Tup : nTup ns ρ κ Q E ↔ ns ρ κ (fun rs ρ1 κ1 => oq (dsOf rs) fun ds => ds.length ≤ 16777216 ∧ Q (.d (.tup ds)) ρ1 κ1) E := Iff.rfl
@[simp ↓] theorem n_Lst : nLst ns ρ κ Q E ↔ ns ρ κ (fun rs ρ1 κ1 => oq (dsOf rs) fun ds => ds.length ≤ 16777216 ∧ Q (.own ds) ρ1 κ1) E := Iff.rfl
@[simp ↓] theorem n_Call {F : Fn} : nCall F ns ρ κ Q E ↔ ns ρ κ (fun rs ρ1 κ1 => (bors rs).Nodup ∧ oq (argsOf ρ1 rs) fun args => wN F args κ1 (fun r as κ2 => nobor r ∧ oq (give rs as ρ1) fun ρ2 => Q r ρ2 κ2) (fun e as κ2 => oq (give rs as ρ1) fun ρ2 => E e ρ2 κ2)) E := by
  unfold nCall nBind wN
  exact Iff.rfl
@[simp ↓] theorem n_Is {mg : Str → Option Value} {x : Str} : nIs mg i x na ρ κ Q E ↔ dAt ρ i (.ptr (gRef mg x)) ∧ na ρ κ Q E := Iff.rfl
@[simp ↓] theorem n_Or : nOr na nb ρ κ Q E ↔ na ρ κ Q E ∨ nb ρ κ Q E := Iff.rfl
end
section
variable {Q : List RV → Sl → Ck → Prop}
@[simp ↓] theorem n_Cons : nCons na ns ρ κ Q E ↔ na ρ κ (fun r ρ1 κ1 => ns ρ1 κ1 (fun rs ρ2 κ2 => Q (r.nrm :: rs) ρ2 κ2) E) E := Iff.rfl
@[simp ↓] theorem n_App : nApp n m ns ms ρ κ Q E ↔ ns ρ κ (fun rs ρ1 κ1 => ms ρ1 κ1 (fun qs ρ2 κ2 => rs.length = n ∧ qs.length = m ∧ Q (rs ++ qs) ρ2 κ2) E) E := Iff.rfl
@[simp ↓] theorem n_Pick {sel : Sel} {dds : List D} : nPick sel dds ns ρ κ Q E ↔ ns ρ κ (fun rs ρ1 κ1 => Q (pickR sel rs dds) ρ1 κ1) E := Iff.rfl
end
theorem wN_run {body : NS} {args : List SV} {Q : RV → List SV → Ck → Prop} {E : Er → List SV → Ck → Prop} : wN (runN n m body) args κ Q E ↔ args.length = m ∧ body (args.map some ++ List.replicate (n - args.length) none) κ
  (fun fl ρ κ' => oq (fin fl ρ) fun r => oq (outs args 0 ρ) fun as => Q r as κ') (fun e ρ κ' => oq (outs args 0 ρ) fun as => E e as κ') := by
  unfold wN runN
  exact Iff.rfl
@[simp ↓] theorem wA_App2 {ft : Ax} {QA : List RV → Sl → Prop} : wA (aApp2 n m fs ft) ρ QA ↔ wA fs ρ fun rs ρ1 => wA ft ρ1 fun qs ρ2 => rs.length = n ∧ qs.length = m ∧ QA (rs ++ qs) ρ2 := by
  unfold wA aApp2
  rcases fs ρ with _ | ⟨rs, ρ1⟩
  · simp
  rcases e2 : ft ρ1 with _ | ⟨qs, ρ2⟩
  · simp [e2]
  simp only [okQ_some, e2]
  by_cases h : rs.length = n ∧ qs.length = m
  · rw [if_pos h]; simp [h]
  · rw [if_neg h]; simp only [okQ_none, false_iff]; exact fun z => h ⟨z.1, z.2.1⟩
@[simp ↓] theorem wA_Pick {sel : Sel} {dds : List D} {QA : List RV → Sl → Prop} : wA (aPick sel dds fs) ρ QA ↔ wA fs ρ fun rs ρ1 => QA (pickR sel rs dds) ρ1 := by
  unfold wA aPick
  rcases fs ρ with _ | ⟨rs, ρ1⟩ <;> simp
@[simp ↓] theorem wE_Items {QE : RV → Sl → Prop} : wE (bItems fa) ρ QE ↔ wE fa ρ fun r ρ1 => match r with
    | .d (.dct ks xs) => QE (.own (itemsOf ks xs)) ρ1
    | _ => False := by
  unfold wE bItems
  rcases fa ρ with _ | ⟨r, ρ1⟩
  · simp
  cases r with
  | d x => cases x <;> simp
  | own x => simp
  | bor x => simp
@[simp ↓] theorem wE_Giv {a dd : Addr} {f : Str} {QE : RV → Sl → Prop} : wE (bGiv a dd f (bV i)) ρ QE ↔ (match ρ[i]? with
  | some (some (.d (.exn a' dd' ns xs))) => (a' = a ∧ dd' = dd) ∧ oq (lkD ns xs f) fun x => QE (.d x) ρ
  | _ => False) := by
  unfold wE bGiv bV
  split
  · rename_i a' dd' ns xs ρ1 e
    split at e <;> cases e
    rename_i x e1
    rw [e1]
    by_cases h : a' = a ∧ dd' = dd
    · rw [if_pos h]
      show _ ↔ (a' = a ∧ dd' = dd) ∧ oq (lkD ns xs f) _
      cases lkD ns xs f <;> simp [h]
    · rw [if_neg h]
      simp only [okQ_none, false_iff]
      exact fun z => h z.1
  · rename_i h
    simp only [okQ_none, false_iff]
    split
    · rename_i e1
      rw [e1] at h
      exact fun _ => h _ _ _ _ _ rfl
    · exact id
@[simp] theorem lkD_hit {n : Str} {ns : List Str} {x : D} {xs : List D} : lkD (n :: ns) (x :: xs) n = some x := by unfold lkD; simp
end
@[simp] theorem pickR_nil {rs : List RV} {dds : List D} : pickR [] rs dds = [] := rfl
@[simp] theorem pickR_inl {rs : List RV} {dds : List D} {i : Nat} {s : Sel} : pickR (.inl i :: s) rs dds = (rs[i]?).toList ++ pickR s rs dds := rfl
@[simp] theorem pickR_inr {rs : List RV} {dds : List D} {i : Nat} {s : Sel} : pickR (.inr i :: s) rs dds = ((dds[i]?).map RV.d).toList ++ pickR s rs dds := by
  show ((dds.map RV.d)[i]?).toList ++ _ = _
  rw [List.getElem?_map]
  rfl
@[simp] theorem shlD_int {i j : Int} : shlD (.int i) (.int j) = if (0 ≤ j ∧ j ≤ 1000000 ∧ i.natAbs < 18446744073709551616) then some (.d (.int (i * 2 ^ j.toNat))) else none := by
  simp only [shlD, iiD, powC, p64n, decide_eq_true_eq]
@[simp] theorem shrD_int {i j : Int} : shrD (.int i) (.int j) = if 0 ≤ j then some (.d (.int (i / 2 ^ j.toNat))) else none := by
  simp only [shrD, iiD, shrC, decide_eq_true_eq]
theorem bitAnd_one (n : Nat) : Builtin.bitAnd (n : Int) 1 = ((n % 2 : Nat) : Int) := by
  show ((n &&& 1 : Nat) : Int) = _
  rw [Nat.and_one_is_mod]
@[simp] theorem andD_one {n : Nat} : andD (.int (n : Int)) (.int 1) = some (.d (.int ((n % 2 : Nat) : Int))) := by
  show some (RV.d (.int (Builtin.bitAnd (n : Int) 1))) = _
  rw [bitAnd_one]
@[simp] theorem isD_dn {ks : List L2.Key} {xs : List D} : isD (.dct ks xs) .non = some (.d (.bl false)) := rfl
@[simp] theorem isnD_dn {ks : List L2.Key} {xs : List D} : isnD (.dct ks xs) .non = some (.d (.bl true)) := rfl
@[simp] theorem tyD_dct {ks : List L2.Key} {xs : List D} : tyD (.dct ks xs) = some "dict" := rfl
@[simp] theorem kit_dict_dict : kitB "dict" "dict" = some true := by decide +kernel
@[simp] theorem kit_dict_str : kitB "dict" "str" = some false := by decide +kernel
@[simp] theorem kit_dict_int : kitB "dict" "int" = some false := by decide +kernel
@[simp] theorem kit_dict_bool : kitB "dict" "bool" = some false := by decide +kernel
@[simp] theorem kit_dict_list : kitB "dict" "list" = some false := by decide +kernel
@[simp] theorem kit_dict_tuple : kitB "dict" "tuple" = some false := by decide +kernel
@[simp] theorem mulS_si {s : List Nat} {n : Int} : mulS (.str s) (.int n) = if -9223372036854775808 ≤ n ∧ n.toNat ≤ 16777216 ∧ s.length * n.toNat ≤ 16777216 then some (.d (.str (List.replicate n.toNat s).flatten)) else none := by
  show (if -(2 ^ 63) ≤ n ∧ _ then _ else _) = _
  rw [show (-(2 ^ 63) : Int) = -9223372036854775808 from by decide]
@[simp] theorem mulL_li {s : List D} {n : Int} : mulL (.lst s) (.int n) = if -9223372036854775808 ≤ n ∧ n < 9223372036854775808 ∧ s.length * n.toNat ≤ 16777216 then some (.own (List.replicate n.toNat s).flatten) else none := by
  show (if -(2 ^ 63) ≤ n ∧ n < 2 ^ 63 ∧ _ then _ else _) = _
  rw [show (-(2 ^ 63) : Int) = -9223372036854775808 from by decide, show ((2 ^ 63) : Int) = 9223372036854775808 from by decide]
@[simp ↓] theorem wI_RangeB {ρ : Sl} {fa fb : Ex} {QI : List D → Sl → Prop} : wI (iRangeB fa fb) ρ QI ↔ wE fa ρ fun r ρ1 => isInt r fun i => wE fb ρ1 fun q ρ2 => isInt q fun j => QI ((List.range (j - i).toNat).map fun k : Nat => D.int (i + (k : Int))) ρ2 := by
  unfold wE wI iRangeB
  rcases fa ρ with _ | ⟨r, ρ1⟩
  · simp
  cases r with
  | own x => simp [isInt]
  | bor x => simp [isInt]
  | d x =>
    cases x with
    | int i =>
      simp only [okQ_some, isInt_int]
      rcases fb ρ1 with _ | ⟨q, ρ2⟩
      · simp
      cases q with
      | own x => simp [isInt]
      | bor x => simp [isInt]
      | d y => cases y <;> simp [isInt]
    | _ => simp [isInt]
@[simp ↓] theorem wI_RangeU {ρ : Sl} {fa fb fc : Ex} {QI : List D → Sl → Prop} : wI (iRangeU fa fb fc) ρ QI ↔ wE fa ρ fun r ρ1 => isInt r fun i => wE fb ρ1 fun q ρ2 => isInt q fun j => wE fc ρ2 fun p ρ3 => isInt p fun c => ((0 < c ∧ c < 1073741824) ∧ -1099511627776 ≤ i ∧ i ≤ 1099511627776 ∧ -1099511627776 ≤ j ∧ j ≤ 1099511627776) ∧ QI ((List.range (stepN i j c)).map fun k : Nat => D.int (i + (k : Int) * c)) ρ3 := by
  unfold wE wI iRangeU
  rcases fa ρ with _ | ⟨r, ρ1⟩
  · simp
  cases r with
  | own x => simp [isInt]
  | bor x => simp [isInt]
  | d x =>
    cases x with
    | int i =>
      simp only [okQ_some, isInt_int]
      rcases fb ρ1 with _ | ⟨q, ρ2⟩
      · simp
      cases q with
      | own x => simp [isInt]
      | bor x => simp [isInt]
      | d y =>
        cases y with
        | int j =>
          simp only [okQ_some, isInt_int]
          rcases fc ρ2 with _ | ⟨p, ρ3⟩
          · simp
          cases p with
          | own x => simp [isInt]
          | bor x => simp [isInt]
          | d u =>
            cases u with
            | int k =>
              simp only [okQ_some, isInt_int]
              split
              · rename_i h; simp only [okQ_some]; exact ⟨fun q => ⟨h, q⟩, fun q => q.2⟩
              · rename_i h; simp only [okQ_none, false_iff]; exact fun z => h z.1
            | _ => simp [isInt]
        | _ => simp [isInt]
    | _ => simp [isInt]
theorem str_eq {a b : List Nat} : ((⟨a.toArray⟩ : Str) = ⟨b.toArray⟩) ↔ a = b := by
  constructor
  · intro h
    have := congrArg (fun z : Str => z.cps.toList) h
    simpa using this
  · rintro rfl; rfl
theorem mem_strs (p : List Nat) : ∀ ts : List (List Nat), memB (.str p) (ts.map .str) = decide (p ∈ ts)
  | [] => by simp [memB, inV]
  | t :: ts => by
    have ih := mem_strs p ts
    unfold memB inV at ih ⊢
    have e : eqV (toV (.str t)) (toV (.str p)) = decide (p = t) := by
      show ((⟨t.toArray⟩ : Str) == ⟨p.toArray⟩) = _
      by_cases h : t = p
      · subst h; simp
      · have h1 : ¬ ((⟨t.toArray⟩ : Str) = ⟨p.toArray⟩) := fun z => h (str_eq.mp z)
        have h2 : ¬ p = t := fun z => h z.symm
        rw [decide_eq_false h2]
        exact beq_eq_false_iff_ne.mpr h1
    simp only [List.map_cons, List.any_cons, ih]
    first
      | rw [e]
      | (rw [show eqV (toV (.str p)) (toV (.str t)) = decide (p = t) from by
          show ((⟨p.toArray⟩ : Str) == ⟨t.toArray⟩) = _
          by_cases h : p = t
          · subst h; simp
          · rw [decide_eq_false h]
            exact beq_eq_false_iff_ne.mpr fun z => h (str_eq.mp z)])
    simp [Bool.decide_or]
theorem inD_strs {p : List Nat} {ts : List (List Nat)} : inD (.str p) (.tup (ts.map .str)) = some (.d (.bl (decide (p ∈ ts)))) := by
  have hf : ∀ ts : List (List Nat), (ts.map D.str).all flatD = true := fun ts => by simp [flatD]
  unfold inD
  have e : inB (.str p) (.tup (ts.map .str)) = some (memB (.str p) (ts.map .str)) := by
    unfold inB
    split
    · rename_i h; cases h
    · rename_i h1 h2
      cases h2
      rw [hf]
      rfl
    · rename_i h1 h2; cases h2
    · rename_i h1 h2 h3; exact (h1 _ rfl).elim
  rw [e, mem_strs]
  rfl
theorem ninD_strs {p : List Nat} {ts : List (List Nat)} : ninD (.str p) (.tup (ts.map .str)) = some (.d (.bl (!decide (p ∈ ts)))) := by
  have h := inD_strs (p := p) (ts := ts)
  unfold inD at h
  unfold ninD
  obtain ⟨c, h1, h2⟩ := Option.map_eq_some_iff.mp h
  rw [h1]
  cases h2
  rfl
@[simp] theorem startsD_str {s t : List Nat} : startsD s [.str t] = some (.d (.bl (t.isPrefixOf s))) := by
  have e : Txt.startswith ⟨s.toArray⟩ ⟨t.toArray⟩ = t.isPrefixOf s := by
    unfold Txt.startswith
    rw [PySem.StrLaws.subAt_eq]
    simp only [Str.length, List.size_toArray, List.drop_zero, Nat.zero_add]
    by_cases h : t <+: s
    · rw [List.isPrefixOf_iff_prefix.mpr h, ← List.prefix_iff_eq_take.mp h]
      simp [h.length_le]
    · have h1 : t.isPrefixOf s = false := by
        cases e : t.isPrefixOf s with
        | false => rfl
        | true => exact absurd (List.isPrefixOf_iff_prefix.mp e) h
      rw [h1]
      by_cases hl : s.take t.length = t
      · exact absurd (List.prefix_iff_eq_take.mpr hl.symm) h
      · simp [hl]
  show some (RV.d (D.bl (Txt.startswith ⟨s.toArray⟩ ⟨t.toArray⟩))) = _
  rw [e]
@[simp] theorem endsD_str {s t : List Nat} : endsD s [.str t] = some (.d (.bl (t.isSuffixOf s))) := by
  have e : Txt.endswith ⟨s.toArray⟩ ⟨t.toArray⟩ = t.isSuffixOf s := by
    unfold Txt.endswith
    rw [PySem.StrLaws.subAt_eq]
    simp only [Str.length, List.size_toArray, Nat.zero_add]
    by_cases h : t <:+ s
    · rw [List.isSuffixOf_iff_suffix.mpr h]
      have h2 := List.suffix_iff_eq_drop.mp h
      have h3 : (s.drop (s.length - t.length)).take t.length = t := by
        rw [← h2]; simp
      simp [h.length_le, h3]
    · have h1 : t.isSuffixOf s = false := by
        cases e : t.isSuffixOf s with
        | false => rfl
        | true => exact absurd (List.isSuffixOf_iff_suffix.mp e) h
      rw [h1]
      by_cases hl : t.length ≤ s.length ∧ (s.drop (s.length - t.length)).take t.length = t
      · refine absurd ?_ h
        rw [List.suffix_iff_eq_drop]
        have : (s.drop (s.length - t.length)).take t.length = s.drop (s.length - t.length) := List.take_of_length_le (by simp; omega)
        rw [← this, hl.2]
      · by_cases g : t.length ≤ s.length
        · have : ¬ (s.drop (s.length - t.length)).take t.length = t := fun z => hl ⟨g, z⟩
          simp [this]
        · simp [g]
  show some (RV.d (D.bl (Txt.endswith ⟨s.toArray⟩ ⟨t.toArray⟩))) = _
  rw [e]
end M
namespace M
open PySem PySem.Spec PyProof.Rows L2 TL
@[simp ↓] theorem wT_Tr {ρ : Sl} {fa : Ex} {QT : Bool → Sl → Prop} : wT (bTr fa) ρ QT ↔ wE fa ρ fun r ρ1 => oq (pk ρ1 r.nrm) fun d => oq (truD d) fun b => QT b ρ1 := by
  unfold wE wT bTr
  rcases fa ρ with _ | ⟨r, ρ1⟩
  · simp
  simp only [okQ_some]
  cases e : pk ρ1 r.nrm with
  | none => simp
  | some d => cases e2 : truD d <;> simp [e2]
@[simp] theorem truD_non : truD .non = some false := rfl
@[simp] theorem truD_bl {b : Bool} : truD (.bl b) = some b := rfl
@[simp] theorem truD_int {i : Int} : truD (.int i) = some (i != 0) := rfl
@[simp] theorem truD_str {s : List Nat} : truD (.str s) = if s.length ≤ 16777216 then some (!s.isEmpty) else none := rfl
@[simp] theorem truD_lst {s : List D} : truD (.lst s) = some (!s.isEmpty) := rfl
@[simp] theorem truD_tup {s : List D} : truD (.tup s) = some (!s.isEmpty) := rfl
theorem allD_comp {α : Type} {f : α → Bool} {l : List α} : allD [.lst (l.map (D.bl ∘ f))] = some (.d (.bl (l.all f))) := by
  rw [← List.map_map, allD_lst, List.all_map]
  rfl
theorem anyD_comp {α : Type} {f : α → Bool} {l : List α} : anyD [.lst (l.map (D.bl ∘ f))] = some (.d (.bl (l.any f))) := by
  rw [← List.map_map, anyD_lst, List.any_map]
  rfl
theorem filter_true {α : Type} (l : List α) : l.filter (fun _ => true) = l := List.filter_eq_self.mpr (by simp)
end M
namespace M
open PySem PySem.Spec PyProof.Rows L2 TL
def lkC : Ck → Addr → Option CO
  | [], _ => none
  | (q, c) :: κ, p => if q = p then some c else lkC κ p
theorem lkC_mem : ∀ {κ : Ck} {p : Addr} {c : CO}, lkC κ p = some c → (p, c) ∈ κ
  | (q, c0) :: κ, p, c, h => by
    unfold lkC at h
    split at h
    · rename_i e; cases h; subst e; exact List.mem_cons_self
    · exact List.mem_cons_of_mem _ (lkC_mem h)
theorem lkC_some : ∀ {κ : Ck} {p : Addr} {c : CO}, (p, c) ∈ κ → ∃ c', lkC κ p = some c'
  | (q, c0) :: κ, p, c, h => by
    unfold lkC
    split
    · exact ⟨c0, rfl⟩
    · rename_i hq
      rcases List.mem_cons.mp h with h | h
      · cases h; exact absurd rfl hq
      · exact lkC_some h
def setC (κ : Ck) (p : Addr) (c : CO) : Ck := κ.map fun x => if x.1 = p then (p, c) else x
theorem mem_setC {κ : Ck} {p q : Addr} {c c' : CO} (h : (q, c') ∈ setC κ p c) : (q = p ∧ c' = c) ∨ (q ≠ p ∧ (q, c') ∈ κ) := by
  obtain ⟨x, hx, e⟩ := List.mem_map.mp h
  split at e
  · cases e; exact .inl ⟨rfl, rfl⟩
  · rename_i hn
    subst e; exact .inr ⟨hn, hx⟩
theorem setC_mem {κ : Ck} {p q : Addr} {c c' : CO} (h : (q, c') ∈ κ) (hn : q ≠ p) : (q, c') ∈ setC κ p c := List.mem_map.mpr ⟨(q, c'), h, by rw [if_neg hn]⟩
theorem setC_self {κ : Ck} {p : Addr} {c c' : CO} (h : (p, c') ∈ κ) : (p, c) ∈ setC κ p c := List.mem_map.mpr ⟨(p, c'), h, by rw [if_pos rfl]⟩
mutual
def fz (κ : Ck) : D → D
  | .ptr v => match v with
    | .ref p => match lkC κ p with
      | some (.lst xs) => .lst xs
      | some (.dct kvs) => .dct (kvs.map (·.1)) (kvs.map (·.2))
      | none => .ptr (.ref p)
    | v => .ptr v
  | .lst xs => .lst (fzs κ xs)
  | .tup xs => .tup (fzs κ xs)
  | .scr xs => .scr (fzs κ xs)
  | .ins nm ns xs => .ins nm ns (fzs κ xs)
  | .exn a dd ns xs => .exn a dd ns (fzs κ xs)
  | .dct ks xs => .dct ks (fzs κ xs)
  | .non => .non
  | .bl b => .bl b
  | .int i => .int i
  | .str s => .str s
def fzs (κ : Ck) : List D → List D
  | [] => []
  | d :: ds => fz κ d :: fzs κ ds
end
section
variable {K : PySem.W.Frag} {G G1 hk : Hp} {κ : Ck}
mutual
theorem RD.fz (c : CellsOk K G hk κ) (s : Same G G1) (t : Same hk G1) : ∀ (d : D) (v : V), RD K G d v → RD K G1 (M.fz κ d) v
  | .non, v, h => h
  | .bl b, v, h => h
  | .int i, v, h => h
  | .str x, v, h => h
  | .lst ds, v, ⟨a, xs, e1, e2, e3⟩ => ⟨a, xs, e1, s _ _ e2, RDs.fz c s t ds xs e3⟩
  | .scr ds, v, ⟨a, xs, e1, e2, e3⟩ => ⟨a, xs, e1, s.seq e2, RDs.fz c s t ds xs e3⟩
  | .tup ds, v, ⟨a, xs, e1, e2, e3⟩ => ⟨a, xs, e1, sameT s e2, RDs.fz c s t ds xs e3⟩
  | .ins nm ns ds, v, ⟨a, C, dx, fs, e1, e2, c1, c2, e3, e4⟩ => ⟨a, C, dx, fs, e1, s _ _ e2, c1, c2, e3, RDs.fz c s t ds _ e4⟩
  | .exn a dd ns ds, v, ⟨h, us, h1, h2, h3⟩ => ⟨h, us, s _ _ h1, h2, RDs.fz c s t ds us h3⟩
  | .dct ks ds, v, ⟨a, kvs, e1, e2, e3, e4⟩ => ⟨a, kvs, e1, s _ _ e2, e3, RDs.fz c s t ds _ e4⟩
  | .ptr u, v, h => by
    have h : v = u := h
    subst h
    unfold M.fz
    split
    · rename_i p
      split
      · rename_i xs e
        obtain ⟨o, h1, h2⟩ := c.at_ _ _ (lkC_mem e)
        obtain ⟨vs, rfl, h3⟩ := h2
        exact ⟨p, vs, rfl, t _ _ h1, RDs.mono s _ _ h3⟩
      · rename_i kvs e
        obtain ⟨o, h1, h2⟩ := c.at_ _ _ (lkC_mem e)
        obtain ⟨ws, rfl, h3, h4⟩ := h2
        exact ⟨p, ws, rfl, t _ _ h1, h3, RDs.mono s _ _ h4⟩
      · exact rfl
    · exact rfl
theorem RDs.fz (c : CellsOk K G hk κ) (s : Same G G1) (t : Same hk G1) : ∀ (ds : List D) (vs : List V), RDs K G ds vs → RDs K G1 (M.fzs κ ds) vs
  | [], vs, h => h
  | d :: ds, vs, ⟨x, xs, e1, e2, e3⟩ => ⟨x, xs, e1, RD.fz c s t d x e2, RDs.fz c s t ds xs e3⟩
end
end
def fzS (κ : Ck) : SV → SV
  | .d x => .d (fz κ x)
  | .own _ xs => .d (.lst (fzs κ xs))
def fzL (κ : Ck) (ρ : Sl) : Sl := ρ.map fun o => o.map (fzS κ)
theorem at_fzL {κ : Ck} {ρ : Sl} {i : Nat} {x : SV} (h : At (fzL κ ρ) i x) : ∃ y, At ρ i y ∧ x = fzS κ y := by
  unfold At fzL at h
  rw [List.getElem?_map] at h
  obtain ⟨o, e1, e2⟩ := Option.map_eq_some_iff.mp h
  obtain ⟨y, e3, e4⟩ := Option.map_eq_some_iff.mp e2
  subst e3
  exact ⟨y, e1, e4.symm⟩
section
variable {K : PySem.W.Frag} {F : Fm} {G H : Hp} {σ : Sg} {ρ : Sl} {κ : Ck} {hk : Hp}
theorem ln_none {p : Addr} (z : (ln F hk).hp p = none) : hk p = none ∧ F.hp p = none := by
  have z : (match hk p with | some o => some o | none => F.hp p) = none := z
  cases e : hk p with
  | none => rw [e] at z; exact ⟨rfl, z⟩
  | some o => rw [e] at z; cases z
theorem ln_hk {p : Addr} {o : HO} (e : hk p = some o) : (ln F hk).hp p = some o := by
  show (match hk p with | some o => some o | none => F.hp p) = some o
  rw [e]
structure Frz (K : PySem.W.Frag) (G G1 H : Hp) (σ : Sg) (ρ : Sl) (hk : Hp) : Prop where
  g : Same G G1
  c : Same hk G1
  o : ∀ i b xs p vs, oAt ρ i b xs → vAt σ i (.ref p) → H p = some (.lst vs) → G1 p = some (.lst vs)
theorem RepN.frz (R : RepN K F G H σ ρ κ hk) : ∃ G1, Frz K G G1 H σ ρ hk ∧ Rep K F G1 H σ (fzL κ ρ) := by
  let A : Addr → Prop := fun p => ∃ i b xs, oAt ρ i b xs ∧ vAt σ i (.ref p)
  have decA : ∀ p, Decidable (A p) := fun p => Classical.propDecidable _
  let G1 : Hp := fun p => match G p with
    | some o => some o
    | none => match hk p with
      | some o => some o
      | none => if A p then H p else none
  have ga : Same G G1 := fun b o e => by
    show (match G b with | some o => some o | none => _) = some o
    rw [e]
  have ca : Same hk G1 := fun b o e => by
    have gn : G b = none := R.rp.fg b o (ln_hk e)
    show (match G b with | some o => some o | none => match hk b with | some o => some o | none => _) = some o
    rw [gn, e]
  have oa : ∀ i b xs p vs, oAt ρ i b xs → vAt σ i (.ref p) → H p = some (.lst vs) → G1 p = some (.lst vs) := fun i b xs p vs e1 e2 e3 => by
    obtain ⟨q, us, h1, h2, h3, h4, h5, h6⟩ := R.rp.own i b xs e1
    have eq : q = p := by cases h1.inj e2; rfl
    subst eq
    have h7 := (ln_none h4).1
    show (match G q with | some o => some o | none => match hk q with | some o => some o | none => if A q then H q else none) = _
    rw [h3, h7]
    show (if A q then H q else none) = _
    rw [if_pos ⟨i, b, xs, e1, e2⟩]
    exact e3
  have gs : ∀ b o, G1 b = some o → H b = some o := fun b o e => by
    have e : (match G b with | some o => some o | none => match hk b with | some o => some o | none => if A b then H b else none) = some o := e
    split at e
    · rename_i u hu; cases e; exact R.rp.gh b _ hu
    · split at e
      · rename_i u hu; cases e; exact R.rp.fh b _ (ln_hk hu)
      · split at e
        · exact e
        · cases e
  refine ⟨G1, ⟨ga, ca, oa⟩, ?_⟩
  refine ⟨gs, fun b o e => ?_, fun b o e => ?_, ?_, fun i x e => ?_, fun i b xs e => ?_, fun i j p b c xs ys hij e => ?_⟩
  · refine R.rp.fh b o ?_
    show (match hk b with | some o => some o | none => F.hp b) = some o
    cases e2 : hk b with
    | none => exact e
    | some u => rw [R.ds b u e2] at e; cases e
  · have hn : hk b = none := by
      cases e2 : hk b with
      | none => rfl
      | some u => rw [R.ds b u e2] at e; cases e
    have hl : (ln F hk).hp b = some o := by
      show (match hk b with | some o => some o | none => F.hp b) = some o
      rw [hn]; exact e
    have gn := R.rp.fg b o hl
    show (match G b with | some o => some o | none => match hk b with | some o => some o | none => if A b then H b else none) = none
    rw [gn, hn]
    show (if A b then H b else none) = none
    rw [if_neg]
    rintro ⟨i, c, xs, e1, e2⟩
    obtain ⟨q, us, h1, h2, h3, h4, h5, h6⟩ := R.rp.own i c xs e1
    have eq : q = b := by cases h1.inj e2; rfl
    subst eq
    rw [hl] at h4; cases h4
  · show (ρ.map _).length = _
    rw [List.length_map]; exact R.rp.len
  · obtain ⟨y, h1, h2⟩ := at_fzL e
    cases y with
    | d y =>
      cases h2
      obtain ⟨v, h3, h4⟩ := R.rp.dat i y h1
      exact ⟨v, h3, RD.fz R.cl ga ca _ _ h4⟩
    | own b xs =>
      cases h2
      obtain ⟨p, vs, h3, h4, h5, h6, h7, h8⟩ := R.rp.own i b xs h1
      exact ⟨.ref p, h3, p, vs, rfl, oa i b xs p vs h1 h3 h4, RDs.fz R.cl ga ca _ _ h7⟩
  · obtain ⟨y, h1, h2⟩ := at_fzL e
    cases y <;> cases h2
  · obtain ⟨y, h1, h2⟩ := at_fzL e
    cases y <;> cases h2
theorem RepN.thaw (R : RepN K F G H σ ρ κ hk) {G1 G' H' : Hp} {ρ2 : Sl} (Z : Frz K G G1 H σ ρ hk) (s : Same G1 G') (R' : Rep K F G' H' σ ρ2) : RepN K F G H' σ ρ κ hk := by
  have t : Same G1 H' := s.trans R'.gh
  refine ⟨R.cl, R.ds, Z.g.trans t, fun b o e => ?_, R.rp.fg, R.rp.len, R.rp.dat, fun i b xs e => ?_, R.rp.sep⟩
  · have e : (match hk b with | some o => some o | none => F.hp b) = some o := e
    split at e
    · rename_i u hu; cases e; exact t b _ (Z.c b _ hu)
    · exact R'.fh b o e
  · obtain ⟨p, vs, h1, h2, h3⟩ := R.rp.own i b xs e
    exact ⟨p, vs, h1, t p _ (Z.o i b xs p vs e h1 h2), h3⟩
def flat : D → Bool
  | .non => true
  | .bl _ => true
  | .int _ => true
  | .str _ => true
  | .ptr _ => true
  | _ => false
theorem RD.flat {G' : Hp} {d : D} {v : V} (h : flat d = true) (r : RD K G d v) : RD K G' d v := by
  cases d <;> first | exact r | cases h
theorem RDs.flat {G' : Hp} : ∀ {ds : List D} {vs : List V}, (ds.all M.flat = true) → RDs K G ds vs → RDs K G' ds vs
  | [], vs, _, r => r
  | d :: ds, vs, h, ⟨x, xs, e1, e2, e3⟩ => by
    simp only [List.all_cons, Bool.and_eq_true] at h
    exact ⟨x, xs, e1, RD.flat h.1 e2, RDs.flat h.2 e3⟩
end
def nTh (t : Tx) : NT := fun ρ κ Q _ => okQ (t (fzL κ ρ)) fun b _ => Q b ρ κ
theorem mono_th {t : Tx} : Mono (nTh t) := fun ρ κ Q Q' E E' hq _ h => okQ.imp h fun r ρ' q => hq r ρ κ q
def flatR : RV → Bool
  | .d x => flat x
  | .own xs => xs.all flat
  | .bor _ => false
def nThE (f : Ex) : NE := fun ρ κ Q _ => okQ (f (fzL κ ρ)) fun r _ => flatR r = true ∧ Q r ρ κ
theorem mono_thE {f : Ex} : Mono (nThE f) := fun ρ κ Q Q' E E' hq _ h => okQ.imp h fun r ρ' q => ⟨q.1, hq r ρ κ q.2⟩
section
variable {X : Cx} {W : WX} {e : Expr} {f : Ex} {t : Tx}
theorem tn_th (h : PTv X e t) : PTn X W e (nTh t) := PT.imp h fun σ H Q q => by
  obtain ⟨F, G, ρ, κ, hk, R, q⟩ := q
  obtain ⟨b, ρ', e1, k⟩ := okQ.ex q
  obtain ⟨G1, Z, R1⟩ := R.frz
  exact ⟨F, G1, fzL κ ρ, b, ρ', R1, e1, fun G' H' s R' => k G H' hk (Same.refl G) (R.thaw Z s R')⟩
theorem en_th (h : PEv X e f) : PEn X W e (nThE f) := PE.imp h fun σ H Q q => by
  obtain ⟨F, G, ρ, κ, hk, R, q⟩ := q
  obtain ⟨r, ρ', e1, hf, k⟩ := okQ.ex q
  obtain ⟨G1, Z, R1⟩ := R.frz
  refine ⟨F, G1, fzL κ ρ, r, ρ', R1, e1, fun v G' H' s R' r' => k v G H' hk (Same.refl G) (R.thaw Z s R') ?_⟩
  cases r with
  | d x => exact RD.flat hf r'
  | bor i => cases hf
  | own xs =>
    obtain ⟨p, vs, rfl, hp, gp, fp, hr, hs⟩ := r'
    have g1 : G1 p = none := Same.free s gp
    have gn : G p = none := Same.free Z.g g1
    have hn : hk p = none := Same.free Z.c g1
    refine ⟨p, vs, rfl, hp, gn, ?_, RDs.flat hf hr, fun i b ys o1 o2 => ?_⟩
    · show (match hk p with | some o => some o | none => F.hp p) = none
      rw [hn]; exact fp
    · obtain ⟨q, us, h1, h2, h3⟩ := R.rp.own i b ys o1
      have eq : q = p := by cases h1.inj o2; rfl
      subst eq
      rw [Z.o i b ys q us o1 h1 h2] at g1; cases g1
end
end M
namespace M
open PySem PySem.Spec PyProof.Rows L2 TL
section
variable {K : PySem.W.Frag} {F : Fm} {G H : Hp} {σ : Sg} {ρ : Sl} {κ : Ck} {hk : Hp}
theorem lkC_none (R : RepN K F G H σ ρ κ hk) {p : Addr} (e : hk p = none) : lkC κ p = none := by
  cases z : lkC κ p with
  | none => rfl
  | some c =>
    obtain ⟨o, h1, _⟩ := R.cl.at_ p c (lkC_mem z)
    rw [e] at h1; cases h1
theorem ln_upd {p : Addr} {o : HO} : ln F (upd hk p o) = ⟨upd (ln F hk).hp p o, F.par⟩ := by
  unfold ln
  congr 1
  funext b
  by_cases h : b = p
  · subst h; simp only [upd_same]
  · rw [upd_ne h, upd_ne h]
theorem RepN.cell (R : RepN K F G H σ ρ κ hk) {p : Addr} {o : HO} {c : CO} (hp : H p = some o) (gp : G p = none) (fp : (ln F hk).hp p = none) (ns : ∀ i b ys, oAt ρ i b ys → ¬ vAt σ i (.ref p)) (hc : coOk K G c o) :
    RepN K F G H σ ρ ((p, c) :: κ) (upd hk p o) ∧ lkC κ p = none := by
  obtain ⟨h1, h2⟩ := ln_none fp
  refine ⟨⟨⟨fun q c' m => ?_, fun q o' e => ?_⟩, fun q o' e => ?_, ?_⟩, lkC_none R h1⟩
  · rcases List.mem_cons.mp m with m | m
    · cases m; exact ⟨o, upd_same, hc⟩
    · obtain ⟨o', e1, e2⟩ := R.cl.at_ q c' m
      have hq : q ≠ p := ne_of_none e1 h1
      exact ⟨o', by rw [upd_ne hq]; exact e1, e2⟩
  · by_cases hq : q = p
    · subst hq; exact ⟨c, List.mem_cons_self⟩
    · rw [upd_ne hq] at e
      obtain ⟨c', m⟩ := R.cl.only q o' e
      exact ⟨c', List.mem_cons_of_mem _ m⟩
  · by_cases hq : q = p
    · subst hq; exact h2
    · rw [upd_ne hq] at e; exact R.ds q o' e
  · rw [ln_upd]
    exact R.rp.lend hp gp ns
theorem RepN.wrC (R : RepN K F G H σ ρ κ hk) {p : Addr} {o : HO} {c0 c : CO} (h : lkC κ p = some c0) (hc : coOk K G c o) : RepN K F G (upd H p o) σ ρ (setC κ p c) (upd hk p o) := by
  obtain ⟨o0, e0, _⟩ := R.cl.at_ p c0 (lkC_mem h)
  have gp : G p = none := R.rp.fg p o0 (ln_hk e0)
  refine ⟨⟨fun q c' m => ?_, fun q o' e => ?_⟩, fun q o' e => ?_, ⟨fun b u e => ?_, fun b u e => ?_, fun b u e => ?_, R.rp.len, R.rp.dat, fun i b xs e => ?_, R.rp.sep⟩⟩
  · rcases mem_setC m with ⟨rfl, rfl⟩ | ⟨hq, m⟩
    · exact ⟨o, upd_same, hc⟩
    · obtain ⟨o', e1, e2⟩ := R.cl.at_ q c' m
      exact ⟨o', by rw [upd_ne hq]; exact e1, e2⟩
  · by_cases hq : q = p
    · subst hq; exact ⟨c, setC_self (lkC_mem h)⟩
    · rw [upd_ne hq] at e
      obtain ⟨c', m⟩ := R.cl.only q o' e
      exact ⟨c', setC_mem m hq⟩
  · by_cases hq : q = p
    · subst hq; exact R.ds _ o0 e0
    · rw [upd_ne hq] at e; exact R.ds q o' e
  · rw [upd_ne (ne_of_none e gp)]; exact R.rp.gh b u e
  · rw [ln_upd] at e
    have e : upd (ln F hk).hp p o b = some u := e
    by_cases hb : b = p
    · subst hb; rw [upd_same] at e; rw [upd_same]; exact e
    · rw [upd_ne hb] at e; rw [upd_ne hb]; exact R.rp.fh b u e
  · rw [ln_upd] at e
    have e : upd (ln F hk).hp p o b = some u := e
    by_cases hb : b = p
    · subst hb; exact gp
    · rw [upd_ne hb] at e; exact R.rp.fg b u e
  · obtain ⟨q, vs, h1, h2, h3, h4, h5⟩ := R.rp.own i b xs e
    have hq : q ≠ p := fun z => by subst z; rw [ln_hk e0] at h4; cases h4
    refine ⟨q, vs, h1, by rw [upd_ne hq]; exact h2, h3, ?_, h5⟩
    rw [ln_upd]
    show upd (ln F hk).hp p o q = none
    rw [upd_ne hq]; exact h4
def Sub (κ' κ : Ck) : Prop := ∀ x, x ∈ κ' → x ∈ κ
theorem RepN.sub (R : RepN K F G H σ ρ κ hk) {κ' : Ck} (h : Sub κ' κ) : ∃ hk', RepN K F G H σ ρ κ' hk' ∧ (∀ b o, hk' b = some o → hk b = some o) := by
  let P : Addr → Prop := fun p => ∃ c, (p, c) ∈ κ'
  have decP : ∀ p, Decidable (P p) := fun p => Classical.propDecidable _
  let hk' : Hp := fun p => if P p then hk p else none
  have sub : ∀ b o, hk' b = some o → P b ∧ hk b = some o := fun b o e => by
    have e : (if P b then hk b else none) = some o := e
    split at e
    · rename_i z; exact ⟨z, e⟩
    · cases e
  have lsub : ∀ b o, (ln F hk').hp b = some o → (ln F hk).hp b = some o := fun b o e => by
    have e : (match hk' b with | some o => some o | none => F.hp b) = some o := e
    split at e
    · rename_i u hu; cases e; exact ln_hk (sub b _ hu).2
    · show (match hk b with | some o => some o | none => F.hp b) = some o
      cases z : hk b with
      | none => exact e
      | some u => rw [R.ds b u z] at e; cases e
  refine ⟨hk', ⟨⟨fun p c m => ?_, fun p o e => (sub p o e).1⟩, fun p o e => R.ds p o (sub p o e).2, R.rp.gh, fun b o e => R.rp.fh b o (lsub b o e), fun b o e => R.rp.fg b o (lsub b o e), R.rp.len, R.rp.dat, fun i b xs e => ?_, R.rp.sep⟩, fun b o e => (sub b o e).2⟩
  · obtain ⟨o, e1, e2⟩ := R.cl.at_ p c (h _ m)
    refine ⟨o, ?_, e2⟩
    show (if P p then hk p else none) = some o
    rw [if_pos ⟨c, m⟩]; exact e1
  · obtain ⟨p, vs, h1, h2, h3, h4, h5⟩ := R.rp.own i b xs e
    refine ⟨p, vs, h1, h2, h3, ?_, h5⟩
    cases z : (ln F hk').hp p with
    | none => rfl
    | some o => rw [lsub p o z] at h4; cases h4
theorem RR.sub {hk' : Hp} (h : ∀ b o, hk' b = some o → hk b = some o) (ds : Dis F hk) {r : RV} {v : V} (q : RR K (ln F hk) G H σ ρ r v) : RR K (ln F hk') G H σ ρ r v := by
  cases r with
  | d x => exact q
  | bor i => exact q
  | own xs =>
    obtain ⟨p, vs, h1, h2, h3, h4, h5⟩ := q
    obtain ⟨z1, z2⟩ := ln_none h4
    refine ⟨p, vs, h1, h2, h3, ?_, h5⟩
    show (match hk' p with | some o => some o | none => F.hp p) = none
    cases z : hk' p with
    | none => exact z2
    | some o => rw [h p o z] at z1; cases z1
end
def nCell (f : NE) : NE := nBind f fun r ρ κ Q _ => match r with
  | .own xs => ∀ p, lkC κ p = none → Q (.d (.ptr (.ref p))) ρ ((p, .lst xs) :: κ)
  | .d x => Q (.d x) ρ κ
  | .bor _ => False
theorem mono_cell {f : NE} (mf : Mono f) : Mono (nCell f) := mono_bind mf fun r ρ κ Q Q' E E' hq _ h => by
  cases r with
  | own xs => exact fun p hp => hq _ _ _ (h p hp)
  | d x => exact hq _ _ _ h
  | bor i => exact h
def nDict0 : NE := fun ρ κ Q _ => ∀ p, lkC κ p = none → Q (.d (.ptr (.ref p))) ρ ((p, .dct []) :: κ)
theorem mono_dict0 : Mono nDict0 := fun ρ κ Q Q' E E' hq _ h p hp => hq _ _ _ (h p hp)
section
variable {X : Cx} {W : WX} {e o k : Expr} {es : List Expr} {f fo : NE} {fs : NA} {t u : NT} {pos : Pos}
theorem en_cell (mf : Mono f) (h : PEn X W e f) : PEn X W e (nCell f) := PE.imp h fun σ H Q q => by
  obtain ⟨F, G, ρ, κ, hk, R, q⟩ := q
  refine ⟨F, G, ρ, κ, hk, R, mf _ _ _ _ _ _ (fun r ρ1 κ1 q => ?_) (fun e ρ' κ' z => z) q⟩
  intro v G1 H1 hk1 s1 R1 r1
  cases r with
  | d x => exact q v G1 H1 hk1 s1 R1 r1
  | bor i => exact q.elim
  | own xs =>
    obtain ⟨p, vs, rfl, hp, gp, fp, hr, hs⟩ := r1
    obtain ⟨R2, hn⟩ := R1.cell (c := .lst xs) hp gp fp hs ⟨vs, rfl, hr⟩
    exact q p hn (.ref p) G1 H1 _ s1 R2 rfl
theorem en_dict0 : PEn X W (.Dict [] [] pos) nDict0 := PE.imp pe_dnewK fun σ H Q q => by
  obtain ⟨F, G, ρ, κ, hk, R, q⟩ := q
  intro p hp
  have R0 : RepN X.K F G (upd H p (.dK [])) σ ρ κ hk := ⟨R.cl, R.ds, R.rp.new hp⟩
  obtain ⟨R2, hn⟩ := R0.cell (p := p) (o := .dK []) (c := .dct []) upd_same (R.rp.gNone hp) (R.rp.fNone hp) (R.rp.oNe hp) ⟨[], rfl, rfl, rfl⟩
  exact q p hn (.ref p) G _ _ (Same.refl G) R2 rfl
def nMu (g : List D → List D → Option (List D × D)) (fo : NE) (fs : NA) : NE := nBind fo fun r ρ κ Q E => ∃ p xs0, r = .d (.ptr (.ref p)) ∧ lkC κ p = some (.lst xs0) ∧
  fs ρ κ (fun rs ρ1 κ1 => ∃ xs ds ys z, lkC κ1 p = some (.lst xs) ∧ dsOf rs = some ds ∧ g xs ds = some (ys, z) ∧ Q (.d z) ρ1 (setC κ1 p (.lst ys))) E
theorem mono_mu {g : List D → List D → Option (List D × D)} (mf : Mono fo) (ms : Mono fs) : Mono (nMu g fo fs) := mono_bind mf fun r ρ κ Q Q' E E' hq he h => by
  obtain ⟨p, xs0, h1, h2, h3⟩ := h
  exact ⟨p, xs0, h1, h2, ms _ _ _ _ _ _ (fun rs ρ1 κ1 ⟨xs, ds, ys, z, a, b, c, d⟩ => ⟨xs, ds, ys, z, a, b, c, hq _ _ _ d⟩) he h3⟩
theorem read_muN {g : List D → List D → Option (List D × D)} {r : V → List V → Hp → VK → Prop} (hg : MuD X.K r g) (mf : Mono fo) (ms : Mono fs) {σ : Sg} {H : Hp} {Q : VK} (q : nE X.K X.mg W (nMu g fo fs) σ H Q) :
    tBM X.K "list" r (nE X.K X.mg W fo) (nA X.K X.mg W fs) σ H Q := by
  obtain ⟨F, G, ρ, κ, hk, R, q⟩ := q
  refine ⟨F, G, ρ, κ, hk, R, mf _ _ _ _ _ _ (fun r ρ1 κ1 q => ?_) (fun e ρ' κ' z => z) q⟩
  intro v G1 H1 hk1 s1 R1 r1
  obtain ⟨p, xs0, rfl, h2, h3⟩ := q
  cases (show v = .ref p from r1)
  obtain ⟨o0, e0, ⟨vs0, rfl, _⟩⟩ := R1.cl.at_ p _ (lkC_mem h2)
  refine ⟨.inl ⟨rfl, vs0, SqL.of (R1.rp.fh p _ (ln_hk e0))⟩, F, G1, ρ1, κ1, hk1, R1, ms _ _ _ _ _ _ (fun rs ρ2 κ2 q => ?_) (fun e ρ' κ' z => erK.mono s1 z) h3⟩
  intro us G2 H2 hk2 s2 R2 q2
  obtain ⟨xs, ds, ys, z, a, b, c, d⟩ := q
  obtain ⟨o1, e1, ⟨vs, rfl, hr⟩⟩ := R2.cl.at_ p _ (lkC_mem a)
  have gp : G2 p = none := R2.rp.fg p _ (ln_hk e1)
  refine hg G2 H2 p vs us xs ds ys z R2.rp.gh (R2.rp.fh p _ (ln_hk e1)) gp hr (ds_of q2 b) c Q fun ws w hw hv => ?_
  exact d w G2 _ _ (s1.trans s2) (R2.wrC a (c := .lst ys) ⟨ws, rfl, hw⟩) hv
theorem en_appendC {apos cpos : Pos} (mf : Mono fo) (ms : Mono fs) (ho : PEn X W o fo) (ha : PAn X W (e :: es) fs) (hbase : attributeBase o "append" X.env (eval o X.env) = eval o X.env := by rfl)
    (hfew : ((backTo cpos (starEach (e :: es) X.env)).all (fun x => !x.1) && (backToKw cpos (keywordEach [] X.env)).all (fun x => x.1.isSome)
      && decide ((e :: es).length + ([] : List Keyword).length + (if ([] : List Keyword).isEmpty then 0 else 1) < 30)) = true := by rfl)
    (hline : (apos.endLine == cpos.line) = true := by rfl) (hs : starEach (e :: es) X.env = (false, eval e X.env) :: starEach es X.env := by rfl) (hplain : (backTo cpos (starEach es X.env)).any (·.1) = false := by rfl) :
    PEn X W (.Call (.Attribute o "append" apos) (e :: es) [] cpos) (nMu appendD fo fs) :=
  PE.imp (pe_bm PySem.F.plainAttrs_list PySem.F.slot_list_append PySem.F.type_list_append mt_append ho ha hbase hfew hline hs hplain) fun _ _ _ h => read_muN mud_append mf ms h
def insertD (xs ds : List D) : Option (List D × D) := match ds with
  | [.int i, d] => if xs.length < 16777216 ∧ 0 ≤ i ∧ i < 2 ^ 63 then some (xs.take i.toNat ++ [d] ++ xs.drop i.toNat, .non) else none
  | _ => none
theorem mud_insert {K : PySem.W.Frag} : MuD K (fun x vs H Q => ∃ (l : Addr) (xs : List V) (i : Int) (y : V), x = .ref l ∧ vs = [.int i, y] ∧ H l = some (.lst xs) ∧ xs.length < sizeLine ∧ 0 ≤ i ∧ i < 2 ^ 63 ∧
    Q .non (upd H l (.lst (xs.take i.toNat ++ [y] ++ xs.drop i.toNat)))) insertD := by
  intro G H p vs us xs ds ys z s hp gp hx hd e Q k
  unfold insertD at e
  split at e
  · split at e
    · rename_i i d hl
      cases e
      obtain ⟨v, ws, rfl, e2, w, ws', rfl, e3, e4⟩ := hd
      cases e4
      cases (show v = .int i from e2)
      exact ⟨p, vs, i, w, rfl, rfl, hp, by rw [sizeLine_num, hx.length]; exact hl.1, hl.2.1, hl.2.2, k _ _ (((hx.take _).append (RDs.one e3)).append (hx.drop _)) rfl⟩
    · cases e
  · cases e
theorem en_insertC {apos cpos : Pos} (mf : Mono fo) (ms : Mono fs) (ho : PEn X W o fo) (ha : PAn X W (e :: es) fs) (hbase : attributeBase o "insert" X.env (eval o X.env) = eval o X.env := by rfl)
    (hfew : ((backTo cpos (starEach (e :: es) X.env)).all (fun x => !x.1) && (backToKw cpos (keywordEach [] X.env)).all (fun x => x.1.isSome)
      && decide ((e :: es).length + ([] : List Keyword).length + (if ([] : List Keyword).isEmpty then 0 else 1) < 30)) = true := by rfl)
    (hline : (apos.endLine == cpos.line) = true := by rfl) (hs : starEach (e :: es) X.env = (false, eval e X.env) :: starEach es X.env := by rfl) (hplain : (backTo cpos (starEach es X.env)).any (·.1) = false := by rfl) :
    PEn X W (.Call (.Attribute o "insert" apos) (e :: es) [] cpos) (nMu insertD fo fs) :=
  PE.imp (pe_bm PySem.F.plainAttrs_list PySem.F.slot_list_insert PySem.F.type_list_insert mt_insert ho ha hbase hfew hline hs hplain) fun _ _ _ h => read_muN mud_insert mf ms h
end
end M
namespace M
open PySem PySem.Spec PyProof.Rows L2 TL
def nB (f : NE) : NT := nBind f fun r ρ κ Q _ => ∃ b, r = .d (.bl b) ∧ Q b ρ κ
def nNot (t : NT) : NT := nBind t fun b ρ κ Q _ => Q (!b) ρ κ
def nAnd2 (t u : NT) : NT := nBind t fun b => if b then u else fun ρ κ Q _ => Q false ρ κ
def nOr2 (t u : NT) : NT := nBind t fun b => if b then (fun ρ κ Q _ => Q true ρ κ) else u
theorem mono_b {f : NE} (mf : Mono f) : Mono (nB f) := mono_bind mf fun r ρ κ Q Q' E E' hq _ h => by
  obtain ⟨b, e, h⟩ := h
  exact ⟨b, e, hq _ _ _ h⟩
theorem mono_not {t : NT} (mt : Mono t) : Mono (nNot t) := mono_bind mt fun b ρ κ Q Q' E E' hq _ h => hq _ _ _ h
theorem mono_and2 {t u : NT} (mt : Mono t) (mu : Mono u) : Mono (nAnd2 t u) := mono_bind mt fun b => by
  cases b with
  | true => exact mu
  | false => exact fun ρ κ Q Q' E E' hq _ h => hq _ _ _ h
theorem mono_or2 {t u : NT} (mt : Mono t) (mu : Mono u) : Mono (nOr2 t u) := mono_bind mt fun b => by
  cases b with
  | true => exact fun ρ κ Q Q' E E' hq _ h => hq _ _ _ h
  | false => exact mu
section
variable {X : Cx} {W : WX} {a b e : Expr} {es rest : List Expr} {f : NE} {t u : NT} {pos : Pos}
def PWn (X : Cx) (W : WX) (e : Expr) (f : NT) : Prop := PW X e (nT X.K X.mg W f)
theorem tn_b (mf : Mono f) (h : PEn X W e f) (he : ∀ whole, isTrue e X.env whole = (do let v ← whole; standAt e.pos; holding [v] (truthy v)) := by intro _; rfl) : PTn X W e (nB f) := PT.imp (pt_val h he) fun σ H Q q => by
  obtain ⟨F, G, ρ, κ, hk, R, q⟩ := q
  refine ⟨F, G, ρ, κ, hk, R, mf _ _ _ _ _ _ (fun r ρ1 κ1 q => ?_) (fun e ρ' κ' z => z) q⟩
  intro v G1 H1 hk1 s1 R1 r1
  obtain ⟨c, rfl, q⟩ := q
  exact ⟨c, r1, q G1 H1 hk1 s1 R1⟩
theorem tn_not (mt : Mono t) (h : PTn X W a t) : PTn X W (.UnaryOp .Not a pos) (nNot t) := PT.imp (pt_not h) fun σ H Q q => by
  obtain ⟨F, G, ρ, κ, hk, R, q⟩ := q
  exact ⟨F, G, ρ, κ, hk, R, mt _ _ _ _ _ _ (fun c ρ1 κ1 q G1 H1 hk1 s1 R1 => q G1 H1 hk1 s1 R1) (fun e ρ' κ' z => z) q⟩
theorem wn_one_and (h : PTn X W e t) : PWn X W (.BoolOp .And [e] pos) t := pw_and1 h
theorem wn_one_or (h : PTn X W e t) : PWn X W (.BoolOp .Or [e] pos) t := pw_or1 h
theorem tn_w (h : PWn X W e t) : PTn X W e t := PW.pt h
theorem wn_and (mt : Mono t) (mu : Mono u) (h : PTn X W a t) (k : PWn X W (.BoolOp .And (b :: rest) pos) u) : PWn X W (.BoolOp .And (a :: b :: rest) pos) (nAnd2 t u) := PW.imp (pw_and h k) fun σ H Q q => by
  obtain ⟨F, G, ρ, κ, hk, R, q⟩ := q
  refine ⟨F, G, ρ, κ, hk, R, mt _ _ _ _ _ _ (fun c ρ1 κ1 q => ?_) (fun e ρ' κ' z => z) q⟩
  intro G1 H1 hk1 s1 R1
  cases c with
  | true => exact iteT ⟨F, G1, ρ1, κ1, hk1, R1, mu _ _ _ _ _ _ (fun c ρ2 κ2 z G2 H2 hk2 s2 R2 => z G2 H2 hk2 (s1.trans s2) R2) (fun e ρ' κ' z => erK.mono s1 z) q⟩
  | false => exact iteF (q G1 H1 hk1 s1 R1)
theorem wn_or (mt : Mono t) (mu : Mono u) (h : PTn X W a t) (k : PWn X W (.BoolOp .Or (b :: rest) pos) u) : PWn X W (.BoolOp .Or (a :: b :: rest) pos) (nOr2 t u) := PW.imp (pw_or h k) fun σ H Q q => by
  obtain ⟨F, G, ρ, κ, hk, R, q⟩ := q
  refine ⟨F, G, ρ, κ, hk, R, mt _ _ _ _ _ _ (fun c ρ1 κ1 q => ?_) (fun e ρ' κ' z => z) q⟩
  intro G1 H1 hk1 s1 R1
  cases c with
  | true => exact iteT (q G1 H1 hk1 s1 R1)
  | false => exact iteF ⟨F, G1, ρ1, κ1, hk1, R1, mu _ _ _ _ _ _ (fun c ρ2 κ2 z G2 H2 hk2 s2 R2 => z G2 H2 hk2 (s1.trans s2) R2) (fun e ρ' κ' z => erK.mono s1 z) q⟩
end
def nGo (bind : Bx) (body : NS) : List D → NS
  | [] => fun ρ κ Q _ => Q .nx ρ κ
  | x :: xs => fun ρ κ Q E => ∃ ρ1, bind x ρ = some ρ1 ∧ body ρ1 κ (fun fl ρ2 κ2 => match fl with
    | .nx => nGo bind body xs ρ2 κ2 Q E
    | .ct => nGo bind body xs ρ2 κ2 Q E
    | .bk => Q .nx ρ2 κ2
    | .rt r => Q (.rt r) ρ2 κ2) E
def nFor (it : Ix) (bind : Bx) (body : NS) : NS := fun ρ κ Q E => ∃ xs ρ1, it ρ = some (xs, ρ1) ∧ nGo bind body xs ρ1 κ Q E
theorem mono_go {bind : Bx} {body : NS} (mb : Mono body) : ∀ xs, Mono (nGo bind body xs)
  | [] => fun ρ κ Q Q' E E' hq _ h => hq _ _ _ h
  | x :: xs => fun ρ κ Q Q' E E' hq he h => by
    obtain ⟨ρ1, e, h⟩ := h
    refine ⟨ρ1, e, mb _ _ _ _ _ _ (fun fl ρ2 κ2 z => ?_) he h⟩
    cases fl with
    | nx => exact mono_go mb xs _ _ _ _ _ _ hq he z
    | ct => exact mono_go mb xs _ _ _ _ _ _ hq he z
    | bk => exact hq _ _ _ z
    | rt r => exact hq _ _ _ z
theorem mono_for {it : Ix} {bind : Bx} {body : NS} (mb : Mono body) : Mono (nFor it bind body) := fun ρ κ Q Q' E E' hq he h => by
  obtain ⟨xs, ρ1, e, h⟩ := h
  exact ⟨xs, ρ1, e, mono_go mb xs _ _ _ _ _ _ hq he h⟩
theorem read_forN {K : PySem.W.Frag} {mg : Str → Option Value} {W : WX} {wi : TI} {g : TG} {it : Ix} {bind : Bx} {body : NS} {is : List Nat} (mb : Mono body) (hi : ItD K wi it) (hg : GD K g bind is) {D : Ends} {σ : Sg} {H : Hp} (h : nS K mg W (nFor it bind body) D σ H) :
    tFor wi g (nS K mg W body) D σ H := by
  obtain ⟨F, G, ρ, κ, hk, R, xs, ρ1, e1, q⟩ := h
  refine hi σ H _ ⟨ln F hk, G, ρ, xs, ρ1, R.rp, e1, fun J H1 G1 s1 R1 hj => ?_⟩
  let QQ : Fl → Sl → Ck → Prop := fun fl ρ' κ' => ∀ σ' G' H' hk', Same G G' → RepN K F G' H' σ' ρ' κ' hk' → FQ K (ln F hk') D fl G' H' σ' ρ'
  refine ⟨fun i m σ' H' => m = xs.length - i ∧ i ≤ xs.length ∧ ∃ G2 ρ2 κ2 hk2, Same G1 G2 ∧ RepN K F G2 H' σ' ρ2 κ2 hk2 ∧ nGo bind body (xs.drop i) ρ2 κ2 QQ (erS K mg W F G), ⟨xs.length, rfl, Nat.zero_le _, G1, ρ1, κ, hk, Same.refl _, ⟨R.cl.mono s1, R.ds, R1⟩, q⟩, ?_⟩
  rintro i m σ' H' ⟨rfl, hi, G2, ρ2, κ2, hk2, s2, R2, e2⟩
  obtain ⟨j1, j2, j3⟩ := hj H' i (s2.trans R2.rp.gh)
  by_cases hlt : i < xs.length
  · refine .inr ⟨j1 hlt, _, fun σ3 H3 w => ⟨xs.length - (i + 1), by omega, w⟩, fun v H3 y => ?_⟩
    obtain ⟨x, hx, hd⟩ := drop_of hlt
    have z := (j3 v H3 x y hx).mono s2
    obtain ⟨G3, s3, R3, q3⟩ := rz_done R2.rp z
    rw [hd] at e2
    obtain ⟨ρ3, e3, e2⟩ := e2
    refine hg (ln F hk2) G3 H3 σ' ρ2 ρ3 x v _ R3 q3 e3 fun σ4 R4 _ => ?_
    refine ⟨F, G3, ρ3, κ2, hk2, ⟨R2.cl.mono s3, R2.ds, R4⟩, mb _ _ _ _ _ _ (fun fl ρ4 κ4 z => ?_) (fun e ρ' κ' z => erS.mono ((s1.trans s2).trans s3) z) e2⟩
    intro σ5 G5 H5 hk5 s5 R5
    have s15 : Same G1 G5 := (s2.trans s3).trans s5
    cases fl with
    | nx => exact ⟨rfl, hlt, G5, ρ4, κ4, hk5, s15, R5, z⟩
    | ct => exact ⟨rfl, hlt, G5, ρ4, κ4, hk5, s15, R5, z⟩
    | bk => exact z σ5 G5 H5 hk5 (s1.trans s15) R5
    | rt r => exact z σ5 G5 H5 hk5 (s1.trans s15) R5
  · refine .inl ⟨j2 (by omega), ?_⟩
    rw [List.drop_eq_nil_of_le (by omega)] at e2
    exact e2 σ' G2 H' hk2 (s1.trans s2) R2
def nWh (c : NT) (body : NS) : Nat → NS
  | 0 => fun _ _ _ _ => False
  | n + 1 => fun ρ κ Q E => c ρ κ (fun b ρ1 κ1 => match b with
    | true => body ρ1 κ1 (fun fl ρ2 κ2 => match fl with
      | .nx => nWh c body n ρ2 κ2 Q E
      | .ct => nWh c body n ρ2 κ2 Q E
      | .bk => Q .nx ρ2 κ2
      | .rt r => Q (.rt r) ρ2 κ2) E
    | false => Q .nx ρ1 κ1) E
theorem mono_wh {c : NT} {body : NS} (mc : Mono c) (mb : Mono body) : ∀ n, Mono (nWh c body n)
  | 0 => fun ρ κ Q Q' E E' hq _ h => h
  | n + 1 => fun ρ κ Q Q' E E' hq he h => mc _ _ _ _ _ _ (fun b ρ1 κ1 z => by
    cases b with
    | false => exact hq _ _ _ z
    | true => exact mb _ _ _ _ _ _ (fun fl ρ2 κ2 z => by
        cases fl with
        | nx => exact mono_wh mc mb n _ _ _ _ _ _ hq he z
        | ct => exact mono_wh mc mb n _ _ _ _ _ _ hq he z
        | bk => exact hq _ _ _ z
        | rt r => exact hq _ _ _ z) he z) he h
theorem read_whileN {K : PySem.W.Frag} {mg : Str → Option Value} {W : WX} {n : Nat} {c : NT} {body : NS} (mc : Mono c) (mb : Mono body) {D : Ends} {σ : Sg} {H : Hp} (h : nS K mg W (nWh c body n) D σ H) : tWhile (nT K mg W c) (nS K mg W body) D σ H := by
  obtain ⟨F, G, ρ, κ, hk, R, q⟩ := h
  let QQ : Fl → Sl → Ck → Prop := fun fl ρ' κ' => ∀ σ' G' H' hk', Same G G' → RepN K F G' H' σ' ρ' κ' hk' → FQ K (ln F hk') D fl G' H' σ' ρ'
  refine ⟨fun m σ' H' => ∃ G2 ρ2 κ2 hk2, Same G G2 ∧ RepN K F G2 H' σ' ρ2 κ2 hk2 ∧ nWh c body m ρ2 κ2 QQ (erS K mg W F G), ⟨n, G, ρ, κ, hk, Same.refl _, R, q⟩, ?_⟩
  rintro m σ' H' ⟨G2, ρ2, κ2, hk2, s2, R2, e2⟩
  cases m with
  | zero => exact e2.elim
  | succ m =>
    refine ⟨F, G2, ρ2, κ2, hk2, R2, mc _ _ _ _ _ _ (fun b ρ3 κ3 z => ?_) (fun e ρ' κ' z G' H' hk' cls d s' R' v => z σ' G' H' hk' cls d (s2.trans s') R' v) e2⟩
    intro G3 H3 hk3 s3 R3
    cases b with
    | false => exact iteF (z σ' G3 H3 hk3 (s2.trans s3) R3)
    | true =>
      refine iteT ⟨_, fun σ5 H5 w => ⟨m, Nat.lt_succ_self m, w⟩, ?_⟩
      refine ⟨F, G3, ρ3, κ3, hk3, R3, mb _ _ _ _ _ _ (fun fl ρ4 κ4 z => ?_) (fun e ρ' κ' z => erS.mono (s2.trans s3) z) z⟩
      intro σ5 G5 H5 hk5 s5 R5
      have s15 : Same G G5 := (s2.trans s3).trans s5
      cases fl with
      | nx => exact ⟨G5, ρ4, κ4, hk5, s15, R5, z⟩
      | ct => exact ⟨G5, ρ4, κ4, hk5, s15, R5, z⟩
      | bk => exact z σ5 G5 H5 hk5 s15 R5
      | rt r => exact z σ5 G5 H5 hk5 s15 R5
section
variable {X : Cx} {W : WX} {e : Expr} {body : List Stmt} {f : NS} {c : NT} {pos : Pos}
theorem sn_for {tg iter : Expr} {it : Ix} {bind : Bx} {is : List Nat} (hp : PassesOwn (model X.prog X.w) X.A X.env X.xe) (hc : X.calm = true) (mb : Mono f) (hi : PIv X tg iter it) (hg : PGv X tg bind is) (hb : PBn X W body f)
    (hs : ∀ x, foldedSetIterable iter X.env x = pure x := by intro _; rfl) : PSn X W (.For tg iter body [] pos) (nFor it bind f) := by
  exact PS.imp (ps_for hp hc hi hg hb hs) fun D σ H h => read_forN mb itd_self gd_self h
theorem sn_while {n : Nat} (hp : PassesOwn (model X.prog X.w) X.A X.env X.xe) (mc : Mono c) (mb : Mono f) (hc : PTn X W e c) (hb : PBn X W body f) : PSn X W (.While e body [] pos) (nWh c f n) := PS.imp (ps_while hp hc hb) fun D σ H h => read_whileN mc mb h
end
theorem RepN.melt {K : PySem.W.Frag} {F : Fm} {G H : Hp} {σ : Sg} {ρ : Sl} {κ : Ck} {hk : Hp} (R : RepN K F G H σ ρ κ hk) : ∃ G2, Same G G2 ∧ Same hk G2 ∧ (∀ b, G b = none → hk b = none → G2 b = none) ∧ ∀ b o, G2 b = some o → H b = some o := by
  refine ⟨fun p => match G p with
    | some o => some o
    | none => hk p, fun b o e => ?_, fun b o e => ?_, fun b e1 e2 => ?_, fun b o e => ?_⟩
  · show (match G b with | some o => some o | none => hk b) = some o
    rw [e]
  · show (match G b with | some o => some o | none => hk b) = some o
    rw [R.rp.fg b o (ln_hk e)]; exact e
  · show (match G b with | some o => some o | none => hk b) = none
    rw [e1]; exact e2
  · have e : (match G b with | some o => some o | none => hk b) = some o := e
    split at e
    · rename_i u hu; cases e; exact R.rp.gh b _ hu
    · exact R.rp.fh b o (ln_hk e)
def fzO (κ : Ck) : SV → SV
  | .d x => .d (fz κ x)
  | .own b xs => .own b (fzs κ xs)
def fzR (κ : Ck) : RV → RV
  | .d x => .d (fz κ x)
  | .own xs => .own (fzs κ xs)
  | .bor i => .bor i
theorem RepN.melted {K : PySem.W.Frag} {F : Fm} {G H : Hp} {vs : List V} {as : List SV} {κ : Ck} {hk : Hp} (R : RepN K F G H (vs.map some) (as.map some) κ hk) {r : RV} {v : V} (q : RR K (ln F hk) G H (vs.map some) (as.map some) r v) (hb : ∀ i, r ≠ .bor i) :
    ∃ G2, Same G G2 ∧ Rep K F G2 H (vs.map some) ((as.map (fzO κ)).map some) ∧ RR K F G2 H (vs.map some) ((as.map (fzO κ)).map some) (fzR κ r) v := by
  obtain ⟨G2, g, c, n, m⟩ := R.melt
  have own2 : ∀ {i : Nat} {b : Bool} {xs : List D}, oAt ((as.map (fzO κ)).map some) i b xs → ∃ ys, oAt (as.map some) i b ys ∧ xs = fzs κ ys := fun {i b xs} e => by
    have e := at_map.mp e
    rw [List.getElem?_map] at e
    obtain ⟨y, h1, h2⟩ := Option.map_eq_some_iff.mp e
    cases y with
    | d y => cases h2
    | own b' ys => cases h2; exact ⟨ys, at_map.mpr h1, rfl⟩
  refine ⟨G2, g, ⟨m, fun b o e => ?_, fun b o e => ?_, ?_, fun i x e => ?_, fun i b xs e => ?_, fun i j p b c xs ys hij e1 e2 => ?_⟩, ?_⟩
  · refine R.rp.fh b o ?_
    show (match hk b with | some o => some o | none => F.hp b) = some o
    cases e2 : hk b with
    | none => exact e
    | some u => rw [R.ds b u e2] at e; cases e
  · have hn : hk b = none := by
      cases e2 : hk b with
      | none => rfl
      | some u => rw [R.ds b u e2] at e; cases e
    refine n b (R.rp.fg b o ?_) hn
    show (match hk b with | some o => some o | none => F.hp b) = some o
    rw [hn]; exact e
  · have := R.rp.len
    simpa using this
  · have e := at_map.mp e
    rw [List.getElem?_map] at e
    obtain ⟨y, h1, h2⟩ := Option.map_eq_some_iff.mp e
    cases y with
    | d y =>
      cases h2
      obtain ⟨v, h3, h4⟩ := R.rp.dat i y (at_map.mpr h1)
      exact ⟨v, h3, RD.fz R.cl g c _ _ h4⟩
    | own b' ys => cases h2
  · obtain ⟨ys, h1, rfl⟩ := own2 e
    obtain ⟨p, us, k1, k2, k3, k4, k5, k6⟩ := R.rp.own i b ys h1
    obtain ⟨z1, z2⟩ := ln_none k4
    exact ⟨p, us, k1, k2, n p k3 z1, z2, RDs.fz R.cl g c _ _ k5, k6⟩
  · obtain ⟨ys1, h1, _⟩ := own2 e1
    obtain ⟨ys2, h2, _⟩ := own2 e2
    exact R.rp.sep i j p b _ ys1 ys2 hij h1 h2
  · cases r with
    | d x => exact RD.fz R.cl g c _ _ q
    | bor i => exact absurd rfl (hb i)
    | own xs =>
      obtain ⟨p, us, rfl, k2, k3, k4, k5, k6⟩ := q
      obtain ⟨z1, z2⟩ := ln_none k4
      refine ⟨p, us, rfl, k2, n p k3 z1, z2, RDs.fz R.cl g c _ _ k5, fun i b ys e => ?_⟩
      obtain ⟨ys1, h1, _⟩ := own2 e
      exact k6 i b ys1 h1
section
variable {P : Program} {w : World} {K : PySem.W.Frag} {mg : Str → Option Value} {base : Heap}
theorem fn_okT {x qual : Str} {st : Stmt} {f : Addr} {fd : FuncData} {N ps : List Str} {k : Nat} {body : NS} {F : Fx} (Fn : Fun K x qual st f fd) (S : FnScope N ps (defScope st)) (mb : Mono body)
    (hF : ∀ args r as, F args = some (r, as) → runN N.length ps.length body args [] (fun r' as' κ' => r = fzR κ' r' ∧ as = as'.map (fzO κ') ∧ ∀ i, r' ≠ .bor i) (fun _ _ _ => False))
    (hb : ∀ (cdv : Value) (A : Around) (outer : List Env) (s : Shared) (H : Hp) (E : XK), Room k (A.deeper (envOfC qual (defScope st) s.heap.objs.size f cdv)) →
      PBn (cxOf CX0 P w K mg base N qual (defScope st) f cdv A outer s H E).nox wNone (defBody st) body) : FnOk P w K mg base CX0 (k + 1) f fd ps (spV K F) := by
  have key : ∀ vs H Q E, spV K F vs H Q E → spN K mg (runN N.length ps.length body) vs H Q (fun _ _ _ => False) := fun vs H Q E h => by
    obtain ⟨Fm, G, args, r, as, R, ht, e, q⟩ := h
    refine ⟨Fm, G, args, [], fun _ => none, ⟨⟨fun p c m => (by cases m), fun p o m => (by cases m)⟩, fun p o m => (by cases m), R⟩, ht, ?_⟩
    refine mono_run mb _ _ _ _ _ _ (fun r' as' κ' z => ?_) (fun _ _ _ z => z.elim) (hF args r as e)
    obtain ⟨rfl, rfl, hb⟩ := z
    intro v G' H' hk' s' R' rr
    obtain ⟨G2, s2, R2, q2⟩ := R'.melted rr hb
    exact q v G2 H' (s'.trans s2) R2 q2
  refine Fn.ok S (fun vs H Q E h => ?_) (fun cdv A outer s H vs Q E hr h => ⟨_, hb cdv A outer s H E hr, fn_bodyN (E := fun _ _ _ => False) mb (key _ _ _ _ h)⟩)
  obtain ⟨F, G, args, κ, hk, R, ht, hl, q⟩ := key _ _ _ _ h
  have := R.rp.len
  simp at this
  omega
end
end M
namespace M
open PySem PySem.Spec PyProof.Rows L2 TL
def nOp (g : D → D → Option RV) (fa fb : NE) : NE := nBind fa fun ra => nBind fb fun rb ρ κ Q _ => ∃ x y z, pk ρ ra.nrm = some x ∧ pk ρ rb.nrm = some y ∧ g x y = some z ∧ Q z ρ κ
theorem mono_op {g : D → D → Option RV} {fa fb : NE} (ma : Mono fa) (mb : Mono fb) : Mono (nOp g fa fb) := mono_bind ma fun ra => mono_bind mb fun rb ρ κ Q Q' E E' hq _ h => by
  obtain ⟨x, y, z, a, b, c, d⟩ := h
  exact ⟨x, y, z, a, b, c, hq _ _ _ d⟩
section
variable {X : Cx} {W : WX} {a b e : Expr} {es : List Expr} {fa fb : NE} {pos : Pos}
theorem readN2 {g : D → D → Option RV} {r : R2} (hg : OpD X.K r g) (ma : Mono fa) (mb : Mono fb) {σ : Sg} {H : Hp} {Q : VK} (q : nE X.K X.mg W (nOp g fa fb) σ H Q) : tOp r (nE X.K X.mg W fa) (nE X.K X.mg W fb) σ H Q := by
  obtain ⟨F, G, ρ, κ, hk, R, q⟩ := q
  refine ⟨F, G, ρ, κ, hk, R, ma _ _ _ _ _ _ (fun ra ρ1 κ1 q => ?_) (fun _ _ _ z => z) q⟩
  intro x G1 H1 hk1 s1 R1 q1
  obtain ⟨G1', t1, R1', n1⟩ := nrm_step R1.rp q1
  refine ⟨F, G1', ρ1, κ1, hk1, ⟨R1.cl.mono t1, R1.ds, R1'⟩, mb _ _ _ _ _ _ (fun rb ρ2 κ2 q => ?_) (fun _ _ _ z => erK.mono (s1.trans t1) z) q⟩
  intro y G2 H2 hk2 s2 R2 q2
  obtain ⟨G2', t2, R2', n2⟩ := nrm_step R2.rp q2
  obtain ⟨dx, dy, z, p1, p2, ez, q⟩ := q
  refine hg G2' H2 x y dx dy _ R2'.gh (pk_ro R2' (n1.mono (s2.trans t2)) p1) (pk_ro R2' n2 p2) ez Q fun v H' hz => ?_
  obtain ⟨G3, t3, R3, q3⟩ := rz_done R2' hz
  exact q v G3 H' hk2 ((((s1.trans t1).trans s2).trans t2).trans t3) ⟨R2.cl.mono (t2.trans t3), R2.ds, R3⟩ q3
theorem en_item (ma : Mono fa) (mb : Mono fb) (hs : PlainIx b) (ha : PEn X W a fa) (hb : PEn X W b fb) : PEn X W (.Subscript a b pos) (nOp ixD fa fb) :=
  PE.imp (pe_ix ix_seq ha hb hs) fun _ _ _ h => readN2 opd_ix ma mb h
theorem en_op {op : Operator} {r : R2} {g : D → D → Option RV} (ma : Mono fa) (mb : Mono fb) (ho : OpR X (binaryOp op) r) (hg : OpD X.K r g) (ha : PEn X W a fa) (hb : PEn X W b fb) : PEn X W (.BinOp a op b pos) (nOp g fa fb) :=
  PE.imp (pe_op ho ha hb) fun _ _ _ h => readN2 hg ma mb h
def lenK : List D → Option RV
  | [.dct ks xs] => some (.d (.int ks.length))
  | ds => lenD ds
theorem fnd_lenK {K : PySem.W.Frag} : FnD K (fun xs H Q => (∃ a kvs, xs = [V.ref a] ∧ H a = some (.dK kvs) ∧ Q (.int kvs.length) H) ∨ (∃ (x : V) (n : Nat), xs = [x] ∧ LenV K x H n ∧ Q (.int n) H)) lenK := by
  intro G H xs ds z s hx e Q k
  unfold lenK at e
  split at e
  · rename_i ks ys
    cases e
    obtain ⟨v, rfl, r⟩ := ros1 hx
    obtain ⟨p, kvs, e1, e2, e3, e4⟩ := r.dct s
    subst e1
    refine .inl ⟨p, kvs, rfl, e2, k _ _ (.same ?_)⟩
    rw [← e3, List.length_map]; rfl
  · exact .inr (fnd_len G H xs ds z s hx e Q k)
def dkey : D → Option L2.Key
  | .int i => some (.inl i)
  | .str s => some (.inr ⟨s.toArray⟩)
  | _ => none
theorem dkey_v {K : PySem.W.Frag} {G H : Hp} {d : D} {k : L2.Key} {v : V} (h : dkey d = some k) (r : RO K G H d v) : v = kV k := by
  cases d with
  | int i => cases h; exact r.int
  | str s => cases h; exact r.str
  | _ => cases h
def inK (a b : D) : Option RV := match dkey a, b with
  | some k, .dct ks _ => some (.d (.bl (ks.any fun x => decide (x = k))))
  | _, _ => none
theorem valV_mem {kvs : List (L2.Key × V)} {k : L2.Key} : (valV kvs k).isSome = (kvs.map (·.1)).any fun x => decide (x = k) := by
  rw [← valV_any, List.any_map]
  rfl
theorem ev_inK {f g : Ex} (hu : X.A.units + 1 < cLine) (ha : PEv X a f) (hb : PEv X b g) (hm : behindInMarks .In b = false := by rfl) : PEv X (.Compare a [.In] [b] pos) (bOp inK f g) :=
  PE.imp (pe_cmp (pc_din hu ha hb) hm) fun σ H Q h => by
    obtain ⟨F, G, ρ, z, ρ', R, e, k⟩ := h
    unfold bOp at e
    split at e
    · cases e
    rename_i ra ρ1 e1
    split at e
    · cases e
    rename_i rb ρ2 e2
    split at e
    rotate_left
    · cases e
    rename_i dx dy p1 p2
    obtain ⟨z', ez, eq⟩ := Option.map_eq_some_iff.mp e
    cases eq
    refine ⟨F, G, ρ, ra, ρ1, R, e1, fun x G1 H1 s1 R1 q1 => ?_⟩
    obtain ⟨G1', t1, R1', n1⟩ := nrm_step R1 q1
    refine ⟨F, G1', ρ1, rb, _, R1', e2, fun y G2 H2 s2 R2 q2 => ?_⟩
    obtain ⟨G2', t2, R2', n2⟩ := nrm_step R2 q2
    have o1 := pk_ro R2' (n1.mono (s2.trans t2)) p1
    have o2 := pk_ro R2' n2 p2
    unfold inK at ez
    split at ez
    rotate_left
    · cases ez
    rename_i ky ks xs ek
    cases ez
    obtain ⟨p, kvs, f1, f2, f3, f4⟩ := o2.dct R2'.gh
    subst f1
    have hx : x = kV ky := dkey_v ek o1
    subst hx
    refine ⟨p, _, rfl, DGet.k f2, ?_⟩
    rw [valV_mem, f3]
    exact k _ G2' H2 (((s1.trans t1).trans s2).trans t2) R2' rfl
def dput (kvs : List (L2.Key × D)) (k : L2.Key) (v : D) : List (L2.Key × D) :=
  if (kvs.any fun kv => decide (kv.1 = k)) = true then kvs.map (fun kv => if kv.1 = k then (kv.1, v) else kv) else kvs ++ [(k, v)]
theorem any_keys {α β : Type} {kvs : List (L2.Key × α)} {ws : List (L2.Key × β)} (h : kvs.map (·.1) = ws.map (·.1)) (k : L2.Key) : (kvs.any fun kv => decide (kv.1 = k)) = (ws.any fun kv => decide (kv.1 = k)) := by
  have e1 : (kvs.any fun kv => decide (kv.1 = k)) = ((kvs.map (·.1)).any fun x => decide (x = k)) := by rw [List.any_map]; rfl
  have e2 : (ws.any fun kv => decide (kv.1 = k)) = ((ws.map (·.1)).any fun x => decide (x = k)) := by rw [List.any_map]; rfl
  rw [e1, e2, h]
theorem put_map {K : PySem.W.Frag} {G : Hp} {k : L2.Key} {d : D} {v : V} (hv : RD K G d v) : ∀ {kvs : List (L2.Key × D)} {ws : List (L2.Key × V)}, ws.map (·.1) = kvs.map (·.1) → RDs K G (kvs.map (·.2)) (ws.map (·.2)) →
    (ws.map fun kv => if kv.1 = k then (kv.1, v) else kv).map (·.1) = (kvs.map fun kv => if kv.1 = k then (kv.1, d) else kv).map (·.1) ∧
    RDs K G ((kvs.map fun kv => if kv.1 = k then (kv.1, d) else kv).map (·.2)) ((ws.map fun kv => if kv.1 = k then (kv.1, v) else kv).map (·.2))
  | [], [], _, _ => ⟨rfl, rfl⟩
  | [], _ :: _, h, _ => by cases h
  | _ :: _, [], h, _ => by cases h
  | p :: kvs, q :: ws, h, r => by
    obtain ⟨x, xs, e1, e2, e3⟩ := r
    have h1 : q.1 = p.1 := (List.cons.inj h).1
    have h2 : ws.map (·.1) = kvs.map (·.1) := (List.cons.inj h).2
    cases e1
    obtain ⟨i1, i2⟩ := put_map hv h2 e3
    simp only [List.map_cons]
    by_cases hk : p.1 = k
    · have hk2 : q.1 = k := h1.trans hk
      rw [if_pos hk, if_pos hk2]
      exact ⟨by simp only [i1, h1], v, _, rfl, hv, i2⟩
    · have hk2 : ¬ q.1 = k := fun z => hk (h1.symm.trans z)
      rw [if_neg hk, if_neg hk2]
      exact ⟨by simp only [i1, h1], q.2, _, rfl, e2, i2⟩
theorem co_put {K : PySem.W.Frag} {G : Hp} {k : L2.Key} {d : D} {v : V} (hv : RD K G d v) {kvs : List (L2.Key × D)} {ws : List (L2.Key × V)} (h : ws.map (·.1) = kvs.map (·.1)) (r : RDs K G (kvs.map (·.2)) (ws.map (·.2))) : coOk K G (.dct (dput kvs k d)) (.dK (putK ws k v)) := by
  refine ⟨putK ws k v, rfl, ?_⟩
  unfold putK dput
  rw [any_keys h k]
  split
  · exact put_map hv h r
  · simp only [List.map_append, List.map_cons, List.map_nil]
    exact ⟨by rw [h], r.append (RDs.one hv)⟩
def nPut1 (fo fk : NE) (x : D) : NS := nBind fo fun ro => nBind fk fun rk ρ κ Q _ => ∃ p k ky kvs, ro = .d (.ptr (.ref p)) ∧ rk = .d k ∧ dkey k = some ky ∧ lkC κ p = some (.dct kvs) ∧ kvs.length < 16777216 ∧
  Q .nx ρ (setC κ p (.dct (dput kvs ky x)))
theorem mono_put1 {fo fk : NE} (mo : Mono fo) (mk : Mono fk) (x : D) : Mono (nPut1 fo fk x) := mono_bind mo fun ro => mono_bind mk fun rk ρ κ Q Q' E E' hq _ h => by
  obtain ⟨p, k, ky, kvs, b, c, d, f, g, h⟩ := h
  exact ⟨p, k, ky, kvs, b, c, d, f, g, hq _ _ _ h⟩
def nPutD (fe fo fk : NE) : NS := nBind fe fun r => match r with
  | .d x => nPut1 fo fk x
  | _ => fun _ _ _ _ => False
theorem mono_putD {fe fo fk : NE} (me : Mono fe) (mo : Mono fo) (mk : Mono fk) : Mono (nPutD fe fo fk) := mono_bind me fun r => by
  cases r with
  | d x => exact mono_put1 mo mk x
  | own x => exact fun _ _ _ _ _ _ _ _ h => h
  | bor x => exact fun _ _ _ _ _ _ _ _ h => h
theorem sn_putD {o k : Expr} {fe fo fk : NE} {ipos : Pos} (hu : X.A.units + 1 < cLine) (me : Mono fe) (mo : Mono fo) (mk : Mono fk) (ho : PEn X W o fo) (hk : PEn X W k fk) (he : PEn X W e fe)
    (hs : swapsWithSole [.Subscript o k ipos] e pos.line X.env = pure false := by rfl) (hw : swappedStores [.Subscript o k ipos] e X.env = pure none := by rfl) (h1 : (assignEach [.Subscript o k ipos] X.env).map (·.2) = [assign (.Subscript o k ipos) X.env] := by rfl)
    (ha : ∀ v, assign (.Subscript o k ipos) X.env v = (do
      let ov ← holding [v] (eval o X.env)
      let iv ← holding [v, ov] (eval k X.env)
      standAt ipos
      holding [v, ov, iv] (setItem ov iv v)
      release [v, ov, iv] []) := by intro _; rfl) :
    PSn X W (.Assign [.Subscript o k ipos] e pos) (nPutD fe fo fk) := PS.imp (ps_asg he (pg_sub ho hk (set_dict hu) ha) hs hw h1) fun D σ H q => by
  obtain ⟨F, G, ρ, κ, hk0, R, q⟩ := q
  refine ⟨F, G, ρ, κ, hk0, R, me _ _ _ _ _ _ (fun r ρ1 κ1 q => ?_) (fun e ρ' κ' z G' H' hk' cls d s' R' v => z σ G' H' hk' cls d s' R' v) q⟩
  intro v G1 H1 hk1 s1 R1 r1
  cases r with
  | own xs => exact q.elim
  | bor i => exact q.elim
  | d x =>
  refine ⟨F, G1, ρ1, κ1, hk1, R1, mo _ _ _ _ _ _ (fun ro ρ2 κ2 q => ?_) (fun e ρ' κ' z G' H' hk' cls d s' R' v => z σ G' H' hk' cls d (s1.trans s') R' v) q⟩
  intro u G2 H2 hk2 s2 R2 r2
  refine ⟨F, G2, ρ2, κ2, hk2, R2, mk _ _ _ _ _ _ (fun rk ρ3 κ3 q => ?_) (fun e ρ' κ' z G' H' hk' cls d s' R' v => z σ G' H' hk' cls d ((s1.trans s2).trans s') R' v) q⟩
  intro w G3 H3 hk3 s3 R3 r3
  obtain ⟨p, k, ky, kvs, b, c, d, f, g, qq⟩ := q
  subst b
  subst c
  cases (show u = .ref p from r2)
  obtain ⟨o1, e1, ⟨ws, rfl, hw1, hw2⟩⟩ := R3.cl.at_ p _ (lkC_mem f)
  have hx : RD X.K G3 x v := RD.mono (s2.trans s3) _ _ r1
  have hkv : w = kV ky := dkey_v d (.inl r3 : RO X.K G3 H3 k w)
  subst hkv
  refine ⟨p, _, rfl, DPut.k (R3.rp.fh p _ (ln_hk e1)) ?_, ?_⟩
  · rw [sizeLine_num]
    have : ws.length = kvs.length := by have := congrArg List.length hw1; simpa using this
    omega
  · exact qq σ G3 _ _ ((s1.trans s2).trans s3) (R3.wrC f (co_put hx hw1 hw2))
end
end M
namespace M
open PySem PySem.Spec PyProof.Rows L2 TL
abbrev HnN := Str × Option Nat × (Addr → Addr → NS)
def nHdN (er : Er) (ρ : Sl) (κ : Ck) (Q : Fl → Sl → Ck → Prop) (E : Er → Sl → Ck → Prop) : List HnN → Prop
  | [] => E er ρ κ
  | (x, oi, s) :: r => if erIs er.c x = true then (match oi with
      | none => ∀ a dd, s a dd ρ κ (fun fl ρ' κ' => Q fl (dropS oi fl ρ') κ') (fun _ _ _ => False)
      | some i => er.ns ≠ [] ∧ ∀ a dd, s a dd (ρ.set i (some (.d (.exn a dd er.ns er.xs)))) κ (fun fl ρ' κ' => Q fl (dropS oi fl ρ') κ') (fun _ _ _ => False))
    else nHdN er ρ κ Q E r
def nTryN (l : List Str) (f : NS) (hs : List HnN) : NS := fun ρ κ Q E => f ρ κ Q fun er ρ1 κ1 => er.c ∈ l ∧ nHdN er ρ1 κ1 Q E hs
def MonoH (hs : List HnN) : Prop := ∀ h ∈ hs, ∀ a dd, Mono (h.2.2 a dd)
theorem monoH_nil : MonoH [] := fun _ h => nomatch h
theorem monoH_cons {x : Str} {oi : Option Nat} {s : Addr → Addr → NS} {hs : List HnN} (h : ∀ a dd, Mono (s a dd)) (r : MonoH hs) : MonoH ((x, oi, s) :: hs) := fun z m => by
  rcases List.mem_cons.mp m with m | m
  · subst m; exact h
  · exact r z m
theorem nHdN_mono {er : Er} {ρ : Sl} {κ : Ck} {Q Q' : Fl → Sl → Ck → Prop} {E E' : Er → Sl → Ck → Prop} (hq : ∀ r ρ' κ', Q r ρ' κ' → Q' r ρ' κ') (he : ∀ e ρ' κ', E e ρ' κ' → E' e ρ' κ') : ∀ {hs : List HnN}, MonoH hs → nHdN er ρ κ Q E hs → nHdN er ρ κ Q' E' hs
  | [], _, h => he _ _ _ h
  | (x, oi, s) :: r, mh, h => by
    have ms : ∀ a dd, Mono (s a dd) := mh _ List.mem_cons_self
    unfold nHdN at h ⊢
    split at h
    · rename_i z
      rw [if_pos z]
      cases oi with
      | none => exact fun a dd => ms a dd _ _ _ _ _ _ (fun r ρ' κ' q => hq _ _ _ q) (fun _ _ _ z => z) (h a dd)
      | some i => exact ⟨h.1, fun a dd => ms a dd _ _ _ _ _ _ (fun r ρ' κ' q => hq _ _ _ q) (fun _ _ _ z => z) (h.2 a dd)⟩
    · rename_i z
      rw [if_neg z]
      exact nHdN_mono hq he (fun q m => mh q (List.mem_cons_of_mem _ m)) h
theorem mono_tryN {l : List Str} {f : NS} {hs : List HnN} (mf : Mono f) (mh : MonoH hs) : Mono (nTryN l f hs) := fun ρ κ Q Q' E E' hq he h => mf _ _ _ _ _ _ hq (fun e ρ' κ' z => ⟨z.1, nHdN_mono hq he mh z.2⟩) h
inductive HdsNN (X : Cx) (ns l : List Str) : List ExceptHandler → List HnN → Prop
  | nil : HdsNN X ns l [] []
  | plain {x : Str} {s : Addr → Addr → NS} {b₀ : Stmt} {rest : List Stmt} {p1 p2 : Pos} {hds : List ExceptHandler} {hs : List HnN} (hx : x ∈ l) (hg : Gl X x) (hdb : (x == ("__debug__" : Str)) = false) (ms : ∀ a dd, Mono (s a dd))
      (hsu : ∀ (a dd : Addr) (pn : List (Addr × Obj)) (oe : Obj), PBn (X.suite a ((a, oe) :: pn)) wNone (b₀ :: rest) (s a dd)) (r : HdsNN X ns l hds hs) :
      HdsNN X ns l (.ExceptHandler (some (.Name x p1)) none (b₀ :: rest) p2 :: hds) ((x, none, s) :: hs)
  | named {x n : Str} {s : Addr → Addr → NS} {i : Nat} {b₀ : Stmt} {rest : List Stmt} {p1 p2 : Pos} {hds : List ExceptHandler} {hs : List HnN} (hx : x ∈ l) (hg : Gl X x) (hdb : (x == ("__debug__" : Str)) = false) (hi : X.N[i]? = some n) (hln : X.env.kindOf n = some .local) (ms : ∀ a dd, Mono (s a dd))
      (hsu : ∀ (a dd C : Addr) (pn : List (Addr × Obj)) (oe : Obj), XfC X.K C → (∀ n ∈ ns, PySem.W.findIn X.K (.ref C) n = some none) → Zc (.ref C) (some dd) oe → (∃ vs, oe.data = .fields vs) → PBn (X.suite a ((a, oe) :: pn)) wNone (b₀ :: rest) (s a dd)) (r : HdsNN X ns l hds hs) :
      HdsNN X ns l (.ExceptHandler (some (.Name x p1)) (some n) (b₀ :: rest) p2 :: hds) ((x, some i, s) :: hs)
section
variable {X : Cx} {W : WX} {body : List Stmt} {h₀ : ExceptHandler} {hds : List ExceptHandler} {hs : List HnN} {pos : Pos} {f : NS} {ns l : List Str}
theorem HdsNN.mix (T : ErTab X.K X.mg ns l) {hds : List ExceptHandler} {hs : List HnN} (h : HdsNN X ns l hds hs) : MonoH hs ∧ ∃ l2 : List Hd1, HdsMix X hds l2 ∧
    ∀ (F : Fm) (G : Hp) (D : Ends) (er : Er) (ρ1 : Sl) (κ1 : Ck), er.c ∈ l →
      nHdN er ρ1 κ1 (fun fl ρ' κ' => ∀ σ' G' H' hk', Same G G' → RepN X.K F G' H' σ' ρ' κ' hk' → FQ X.K (ln F hk') D fl G' H' σ' ρ') (erS X.K X.mg W F G) hs → erS X.K X.mg (wMix X.K W D l2) F G er ρ1 κ1 := by
  induction h with
  | nil => exact ⟨monoH_nil, [], .nil, fun F G D er ρ1 κ1 hc q => q⟩
  | @plain x s b₀ rest p1 p2 hds hs hx hg hdb ms hsu r ih =>
    obtain ⟨mh, l2, h2, h3⟩ := ih
    obtain ⟨Dx, hD, _⟩ := T.cls x hx
    refine ⟨monoH_cons ms mh, (.ref Dx, none, fun a cls d => fun D σ H => ∃ dd, nS X.K X.mg wNone (s a dd) D σ H) :: l2, .plain ⟨hg, hdb, .inl hD⟩ (fun a oe cls d pn _ _ => ⟨fun pins s' σ H D I ⟨dd, q⟩ => (hsu a dd pn oe).run pins s' σ H D I q⟩) h2, fun F G D er ρ1 κ1 hc q => ?_⟩
    intro σ' G' H' hk' cls d s' R' hv
    obtain ⟨⟨C, hC, rfl⟩, hd⟩ := hv
    refine ⟨_, T.is _ hc _ hx _ _ hC hD, fun hb a na => ?_, fun hb => ?_⟩
    · unfold nHdN at q
      rw [if_pos hb] at q
      refine ⟨a, F, G', ρ1, κ1, hk', R', ms a a _ _ _ _ _ _ (fun fl ρ' κ' z => ?_) (fun _ _ _ z => z.elim) (q a a)⟩
      intro σ2 G2 H2 hk2 s2 R2
      have e : dropS none fl ρ' = ρ' := by cases fl <;> rfl
      rw [e] at z
      exact z σ2 G2 H2 hk2 (s'.trans s2) R2
    · unfold nHdN at q
      rw [if_neg (by rw [hb]; exact Bool.false_ne_true)] at q
      exact h3 F G D er ρ1 κ1 hc q σ' G' H' hk' _ d s' R' ⟨⟨C, hC, rfl⟩, hd⟩
  | @named x n s i b₀ rest p1 p2 hds hs hx hg hdb hi hln ms hsu r ih =>
    obtain ⟨mh, l2, h2, h3⟩ := ih
    obtain ⟨Dx, hD, _⟩ := T.cls x hx
    refine ⟨monoH_cons ms mh, (.ref Dx, some i, fun a cls d => fun D σ H => ∃ C dd, cls = .ref C ∧ d = some dd ∧ XfC X.K C ∧ (∀ n ∈ ns, PySem.W.findIn X.K (.ref C) n = some none) ∧ nS X.K X.mg wNone (s a dd) D σ H) :: l2, .named ⟨hg, hdb, .inl hD⟩ hi hln (fun a oe cls d pn hz hf => ⟨fun pins s' σ H D I q => ?_⟩) h2, fun F G D er ρ1 κ1 hc q => ?_⟩
    · obtain ⟨C, dd, rfl, rfl, x1, x2, q⟩ := q
      exact (hsu a dd C pn oe x1 x2 hz hf).run pins s' σ H D I q
    intro σ' G' H' hk' cls d s' R' hv
    obtain ⟨⟨C, hC, rfl⟩, hd⟩ := hv
    refine ⟨_, T.is _ hc _ hx _ _ hC hD, fun hb a na => ?_, fun hb => ?_⟩
    · unfold nHdN at q
      rw [if_pos hb] at q
      obtain ⟨qn, q⟩ := q
      rcases hd with hd | ⟨dd, us, rfl, hd1, hd2, hd3⟩
      · exact absurd hd qn
      obtain ⟨C', hC', x1, x2⟩ := T.cls _ hc
      rw [hC] at hC'
      cases hC'
      have R1 : RepN X.K F G' H' (σ'.set i (some (.ref a))) (ρ1.set i (some (.d (.exn a dd er.ns er.xs)))) κ1 hk' := ⟨R'.cl, R'.ds, R'.rp.setD ⟨rfl, us, hd1, hd2, hd3⟩⟩
      refine ⟨C, dd, rfl, rfl, x1, x2, F, G', _, κ1, hk', R1, ms a dd _ _ _ _ _ _ (fun fl ρ' κ' k => ?_) (fun _ _ _ z => z.elim) (q a dd)⟩
      intro σ2 G2 H2 hk2 s2 R2
      cases fl with
      | rt r => exact k σ2 G2 H2 hk2 (s'.trans s2) R2
      | nx => exact k (σ2.set i none) G2 H2 hk2 (s'.trans s2) ⟨R2.cl, R2.ds, R2.rp.clear⟩
      | bk => exact k (σ2.set i none) G2 H2 hk2 (s'.trans s2) ⟨R2.cl, R2.ds, R2.rp.clear⟩
      | ct => exact k (σ2.set i none) G2 H2 hk2 (s'.trans s2) ⟨R2.cl, R2.ds, R2.rp.clear⟩
    · unfold nHdN at q
      rw [if_neg (by rw [hb]; exact Bool.false_ne_true)] at q
      exact h3 F G D er ρ1 κ1 hc q σ' G' H' hk' _ d s' R' ⟨⟨C, hC, rfl⟩, hd⟩
theorem sn_tryN (T : ErTab X.K X.mg ns l) (hN : X.N.Nodup) (hs0 : X.stack = X.env :: X.outer) (hf0 : X.env.frame = some X.env.locals) (tk : Takes X W) (mf : Mono f)
    (hb : ∀ (W' : WX) (pn : List (Addr × Obj)) (xe : Value → Shared → Prop), Takes (X.tr pn xe) W' → PassesOwn (model X.prog X.w) X.A X.env xe → PBn (X.tr pn xe) W' body f) (hh : HdsNN X ns l (h₀ :: hds) hs) : PSn X W (.Try body (h₀ :: hds) [] [] pos) (nTryN l f hs) := by
  obtain ⟨mh, l2, h2, h3⟩ := hh.mix (W := W) T
  refine PS.imp (ps_try_mix (tb := fun W' => nS X.K X.mg W' f) hs0 hf0 hN tk hb h2) fun D σ H q => ?_
  obtain ⟨F, G, ρ, κ, hk, R, q⟩ := q
  exact ⟨F, G, ρ, κ, hk, R, mf _ _ _ _ _ _ (fun _ _ _ z => z) (fun er ρ1 κ1 z => h3 F G D er ρ1 κ1 z.1 z.2) q⟩
end
end M
namespace M
open PySem PySem.Spec PyProof.Rows L2 TL
def nAndV (f g : NE) : NE := nBind f fun r ρ κ Q E => ∃ b, r = .d (.bl b) ∧ (match b with
  | true => g ρ κ Q E
  | false => Q (.d (.bl false)) ρ κ)
def nOrV (f g : NE) : NE := nBind f fun r ρ κ Q E => ∃ b, r = .d (.bl b) ∧ (match b with
  | true => Q (.d (.bl true)) ρ κ
  | false => g ρ κ Q E)
def nNotV (f : NE) : NE := nBind f fun r ρ κ Q _ => ∃ b, r = .d (.bl b) ∧ Q (.d (.bl (!b))) ρ κ
theorem mono_andV {f g : NE} (mf : Mono f) (mg : Mono g) : Mono (nAndV f g) := mono_bind mf fun r ρ κ Q Q' E E' hq he h => by
  obtain ⟨b, e, h⟩ := h
  refine ⟨b, e, ?_⟩
  cases b with
  | true => exact mg _ _ _ _ _ _ hq he h
  | false => exact hq _ _ _ h
theorem mono_orV {f g : NE} (mf : Mono f) (mg : Mono g) : Mono (nOrV f g) := mono_bind mf fun r ρ κ Q Q' E E' hq he h => by
  obtain ⟨b, e, h⟩ := h
  refine ⟨b, e, ?_⟩
  cases b with
  | true => exact hq _ _ _ h
  | false => exact mg _ _ _ _ _ _ hq he h
theorem mono_notV {f : NE} (mf : Mono f) : Mono (nNotV f) := mono_bind mf fun r ρ κ Q Q' E E' hq he h => by
  obtain ⟨b, e, h⟩ := h
  exact ⟨b, e, hq _ _ _ h⟩
section
variable {X : Cx} {W : WX} {a b e : Expr} {rest : List Expr} {f g : NE} {pos : Pos}
theorem en_one {op} (h : PEn X W a f) : PEn X W (.BoolOp op [a] pos) f := pe_one h
theorem en_andV (mf : Mono f) (mg : Mono g) (ha : PEn X W a f) (hb : PEn X W (.BoolOp .And (b :: rest) pos) g) : PEn X W (.BoolOp .And (a :: b :: rest) pos) (nAndV f g) := PE.imp (pe_and ha hb) fun σ H Q q => by
  obtain ⟨F, G, ρ, κ, hk, R, q⟩ := q
  refine ⟨F, G, ρ, κ, hk, R, mf _ _ _ _ _ _ (fun r ρ1 κ1 q => ?_) (fun _ _ _ z => z) q⟩
  intro v G1 H1 hk1 s1 R1 r1
  obtain ⟨c, rfl, q⟩ := q
  refine ⟨c, r1, ?_⟩
  cases c with
  | true => exact iteT ⟨F, G1, ρ1, κ1, hk1, R1, mg _ _ _ _ _ _ (fun r ρ2 κ2 z v G2 H2 hk2 s2 R2 r2 => z v G2 H2 hk2 (s1.trans s2) R2 r2) (fun _ _ _ z => erK.mono s1 z) q⟩
  | false => exact iteF (q _ G1 H1 hk1 s1 R1 rfl)
theorem en_orV (mf : Mono f) (mg : Mono g) (ha : PEn X W a f) (hb : PEn X W (.BoolOp .Or (b :: rest) pos) g) : PEn X W (.BoolOp .Or (a :: b :: rest) pos) (nOrV f g) := PE.imp (pe_or ha hb) fun σ H Q q => by
  obtain ⟨F, G, ρ, κ, hk, R, q⟩ := q
  refine ⟨F, G, ρ, κ, hk, R, mf _ _ _ _ _ _ (fun r ρ1 κ1 q => ?_) (fun _ _ _ z => z) q⟩
  intro v G1 H1 hk1 s1 R1 r1
  obtain ⟨c, rfl, q⟩ := q
  refine ⟨c, r1, ?_⟩
  cases c with
  | false => exact iteF ⟨F, G1, ρ1, κ1, hk1, R1, mg _ _ _ _ _ _ (fun r ρ2 κ2 z v G2 H2 hk2 s2 R2 r2 => z v G2 H2 hk2 (s1.trans s2) R2 r2) (fun _ _ _ z => erK.mono s1 z) q⟩
  | true => exact iteT (q _ G1 H1 hk1 s1 R1 rfl)
theorem en_notV (mf : Mono f) (ha : PEn X W a f) : PEn X W (.UnaryOp .Not a pos) (nNotV f) := PE.imp (pe_not ha) fun σ H Q q => by
  obtain ⟨F, G, ρ, κ, hk, R, q⟩ := q
  refine ⟨F, G, ρ, κ, hk, R, mf _ _ _ _ _ _ (fun r ρ1 κ1 q => ?_) (fun _ _ _ z => z) q⟩
  intro v G1 H1 hk1 s1 R1 r1
  obtain ⟨c, rfl, q⟩ := q
  exact ⟨c, r1, q _ G1 H1 hk1 s1 R1 rfl⟩
end
end M
namespace M
open PySem PySem.Spec PyProof.Rows L2 TL
def countD (s : List Nat) : List D → Option RV
  | [.str t] => some (.d (.int (Txt.count ⟨s.toArray⟩ ⟨t.toArray⟩)))
  | _ => none
def findD (s : List Nat) : List D → Option RV
  | [.str t] => some (.d (.int (Txt.find ⟨s.toArray⟩ ⟨t.toArray⟩)))
  | _ => none
theorem mtd_count {K : PySem.W.Frag} : MtD K (fun x xs H Q => ∃ a b, x = V.str a ∧ xs = [V.str b] ∧ Q (.int (Txt.count a b)) H) countD := by
  intro G H s xs ds z sm hx e Q k
  unfold countD at e
  split at e
  · cases e
    obtain ⟨v, rfl, q⟩ := ros1 hx
    exact ⟨_, _, rfl, by rw [q.str], k _ _ (.same rfl)⟩
  · cases e
theorem mtd_find {K : PySem.W.Frag} : MtD K (fun x xs H Q => ∃ a b, x = V.str a ∧ xs = [V.str b] ∧ Q (.int (Txt.find a b)) H) findD := by
  intro G H s xs ds z sm hx e Q k
  unfold findD at e
  split at e
  · cases e
    obtain ⟨v, rfl, q⟩ := ros1 hx
    exact ⟨_, _, rfl, by rw [q.str], k _ _ (.same rfl)⟩
  · cases e
def bOrT (f g : Ex) : Ex := fun ρ => match f ρ with
  | none => none
  | some (r, ρ1) => match pk ρ1 r with
    | none => none
    | some d => match truD d with
      | none => none
      | some true => some (r, ρ1)
      | some false => g ρ1
section
variable {X : Cx} {a b e o : Expr} {es rest : List Expr} {fa fb fo : Ex} {fs : Ax} {pos : Pos}
theorem ev_count {apos cpos : Pos} (ho : PEv X o fo) (ha : PAv X (e :: es) fs) (hbase : attributeBase o "count" X.env (eval o X.env) = eval o X.env := by rfl)
    (hfew : ((backTo cpos (starEach (e :: es) X.env)).all (fun x => !x.1) && (backToKw cpos (keywordEach [] X.env)).all (fun x => x.1.isSome)
      && decide ((e :: es).length + ([] : List Keyword).length + (if ([] : List Keyword).isEmpty then 0 else 1) < 30)) = true := by rfl)
    (hline : (apos.endLine == cpos.line) = true := by rfl) (hs : starEach (e :: es) X.env = (false, eval e X.env) :: starEach es X.env := by rfl) (hplain : (backTo cpos (starEach es X.env)).any (·.1) = false := by rfl) :
    PEv X (.Call (.Attribute o "count" apos) (e :: es) [] cpos) (bMt countD fo fs) :=
  PE.imp (pe_bm PySem.F.plainAttrs_str PySem.F.slot_str_count PySem.F.type_str_count mt_count ho ha hbase hfew hline hs hplain) fun _ _ _ h => read_mt mtd_count h
theorem ev_find {apos cpos : Pos} (ho : PEv X o fo) (ha : PAv X (e :: es) fs) (hbase : attributeBase o "find" X.env (eval o X.env) = eval o X.env := by rfl)
    (hfew : ((backTo cpos (starEach (e :: es) X.env)).all (fun x => !x.1) && (backToKw cpos (keywordEach [] X.env)).all (fun x => x.1.isSome)
      && decide ((e :: es).length + ([] : List Keyword).length + (if ([] : List Keyword).isEmpty then 0 else 1) < 30)) = true := by rfl)
    (hline : (apos.endLine == cpos.line) = true := by rfl) (hs : starEach (e :: es) X.env = (false, eval e X.env) :: starEach es X.env := by rfl) (hplain : (backTo cpos (starEach es X.env)).any (·.1) = false := by rfl) :
    PEv X (.Call (.Attribute o "find" apos) (e :: es) [] cpos) (bMt findD fo fs) :=
  PE.imp (pe_bm PySem.F.plainAttrs_str PySem.F.slot_str_find PySem.F.type_str_find mt_find ho ha hbase hfew hline hs hplain) fun _ _ _ h => read_mt mtd_find h
theorem ev_orT (ha : PEv X a fa) (hb : PEv X (.BoolOp .Or (b :: rest) pos) fb) : PEv X (.BoolOp .Or (a :: b :: rest) pos) (bOrT fa fb) :=
  PE.imp (pe_orT ha hb) fun σ H Q h => by
    obtain ⟨F, G, ρ, r, ρ', R, q, k⟩ := h
    unfold bOrT at q
    split at q
    · cases q
    rename_i r1 ρ1 e1
    split at q
    · cases q
    rename_i d p1
    split at q
    · cases q
    · rename_i t1
      cases q
      refine ⟨F, G, ρ, _, _, R, e1, fun v G1 H1 s1 R1 q1 => ?_⟩
      cases r with
      | own xs => cases p1
      | d x => exact ⟨true, tru_of R1.gh (pk_ro R1 (r := .d x) q1 p1) t1, iteT (k v G1 H1 s1 R1 q1)⟩
      | bor i => exact ⟨true, tru_of R1.gh (pk_ro R1 (r := .bor i) q1 p1) t1, iteT (k v G1 H1 s1 R1 q1)⟩
    · rename_i t1
      refine ⟨F, G, ρ, _, _, R, e1, fun v G1 H1 s1 R1 q1 => ?_⟩
      cases r1 with
      | own xs => cases p1
      | d x => exact ⟨false, tru_of R1.gh (pk_ro R1 (r := .d x) q1 p1) t1, iteF ⟨F, G1, ρ1, _, _, R1, q, fun v G2 H2 s2 R2 q2 => k v G2 H2 (s1.trans s2) R2 q2⟩⟩
      | bor i => exact ⟨false, tru_of R1.gh (pk_ro R1 (r := .bor i) q1 p1) t1, iteF ⟨F, G1, ρ1, _, _, R1, q, fun v G2 H2 s2 R2 q2 => k v G2 H2 (s1.trans s2) R2 q2⟩⟩
end
end M
namespace M
open PySem PySem.Spec PyProof.Rows L2 TL
theorem room_u {k : Nat} {A : Around} (r : Room k A) : A.units + 1 < cLine := by have := r.un; omega
theorem rev_idx (n : Nat) : Builtin.Str.strSliceIndices none none (-1) n = (List.range n).reverse := by
  show sliceRange ((n : Int) - 1) (-1) (-1) = _
  unfold sliceRange
  have hc : (if (-1 : Int) > 0 then (if (n : Int) - 1 < -1 then (-1 - ((n : Int) - 1) + -1 - 1) / -1 else 0) else if (n : Int) - 1 > -1 then ((n : Int) - 1 - -1 - -1 - 1) / - -1 else 0).toNat = n := by
    rw [if_neg (by decide)]
    split
    · simp
    · omega
  simp only [hc]
  apply List.ext_getElem
  · simp
  · intro i h1 h2
    simp at h1
    simp [List.getElem_reverse]
    omega
theorem rev_pick (l : List Nat) : ((Builtin.Str.strSliceIndices none none (-1) l.length).filterMap (l.toArray[·]?)) = l.reverse := by
  rw [rev_idx]
  have h : ((List.range l.length).filterMap (l.toArray[·]?)) = l := by
    have e : (fun (x : Nat) => l.toArray[x]?) = fun (x : Nat) => l[x]? := by funext x; simp
    rw [e]
    clear e
    induction l with
    | nil => simp
    | cons a l ih =>
      rw [List.length_cons, List.range_succ_eq_map, List.filterMap_cons]
      simp only [List.getElem?_cons_zero, List.filterMap_map]
      congr 1
  rw [List.filterMap_reverse, h]
def tRevS (te : TE) : TE := fun σ H Q => te σ H fun x H1 => ∃ l : List Nat, x = .str ⟨l.toArray⟩ ∧ l.length ≤ sizeLine ∧ Q (.str ⟨l.reverse.toArray⟩) H1
section
variable {X : Cx} {e : Expr} {te : TE}
theorem pe_revS {k : Nat} {p1 p2 p3 pos : Pos} (he : PE X e te) : PE X (.Subscript e (.Slice none none (some (.UnaryOp .USub (.Constant (.int 1) k p1) p2)) p3) pos) (tRevS te) := by
  refine ⟨fun pins s σ H Q I h => ?_⟩
  refine Subscript_ (thn (he.run pins s σ H _ I h) fun v s1 ⟨x, H1, I1, r1, q1⟩ => ?_)
  obtain ⟨l, ex, hl, q⟩ := q1
  subst ex
  obtain ⟨t, rfl⟩ := r1
  have hst : PO X (some (.UnaryOp .USub (.Constant (.int 1) k p1) p2)) (tPart (tUn (rU fun i => .int (-i)) (tC (.int 1)))) := po_some (pe_un un_neg pe_int)
  refine wpAny_Slice (thn (po_none.run pins s1 σ H1 (fun o H2 => o = none ∧ H2 = H1) I1 ⟨rfl, rfl⟩) fun vl s2 ⟨o1, H2, I2, pl, el, e2⟩ => ?_)
  subst el e2
  refine thn (po_none.run pins s2 σ H2 (fun o H3 => o = none ∧ H3 = H2) I2 ⟨rfl, rfl⟩) fun vu s3 ⟨u, H3, I3, pu, eu, e3⟩ => ?_
  subst eu e3
  refine thn (hst.run pins s3 σ H3 (fun o H4 => o = some (-1) ∧ H4 = H3) I3 ⟨1, rfl, -1, rfl, rfl, rfl⟩) fun vs s4 ⟨o, H4, I4, ps, eo, e4⟩ => ?_
  subst eo e4
  have I5 : Inv X pins σ H4 { s4 with heap := s4.heap.push { cls := .type "slice", data := .fields #[vl, vu, vs] } } := I4.kept (t' := s4.toks) fun b ob q => Heap.get?_push_of_some _ q
  show wpAny (model X.prog X.w) X.A (subscriptTail e (.Slice none none (some (.UnaryOp .USub (.Constant (.int 1) k p1) p2)) p3) (.str ⟨l.toArray⟩ t) (.ref s4.heap.objs.size)) (EP X pins σ Q) X.xe { s4 with heap := s4.heap.push { cls := .type "slice", data := .fields #[vl, vu, vs] } }
  refine tail_any (ops := [.str ⟨l.toArray⟩ t, .ref s4.heap.objs.size]) (typeIs_str _ _ _) (PySem.F.slot_str_getitem.lookup) ?_ (by with_unfolding_all rfl)
  obtain ⟨l', rfl, hl'⟩ := IsPart.raw pl
  obtain ⟨u', rfl, hu'⟩ := IsPart.raw pu
  obtain ⟨s', rfl, hs'⟩ := IsPart.raw ps
  obtain ⟨os, hos, hcs, hds⟩ := Heap.IsSliceOf.new s4.heap (partValue l') (partValue u') (partValue s')
  have c1 : l'.map (·.1) = none := hl'
  have c2 : u'.map (·.1) = none := hu'
  have c3 : s'.map (·.1) = some (-1) := hs'
  refine wpAny_getItem_str_slice (l := l') (u := u') (st := s') ⟨os, hos, hcs, hds⟩ (by rw [c3]; rfl) ?_
  have e1 : sliceMade ⟨l.toArray⟩ t l' u' s' = Made.str ⟨l.reverse.toArray⟩ := by
    unfold sliceMade slicePicked
    rw [c1, c2, c3]
    rw [if_neg (by simp)]
    show Made.str ⟨(((Builtin.Str.strSliceIndices none none (-1) (Str.length ⟨l.toArray⟩)).filterMap (l.toArray[·]?)).toArray)⟩ = _
    have : Str.length ⟨l.toArray⟩ = l.length := by simp [Str.length]
    rw [this, rev_pick]
  rw [e1]
  exact ⟨by simpa [Str.length] using hl, .str _, H4, I5.tok _, ⟨_, rfl⟩, q⟩
end
def revS : D → Option RV
  | .str l => if l.length ≤ 16777216 then some (.d (.str l.reverse)) else none
  | _ => none
def revL : D → Option RV
  | .lst l => some (.own l.reverse)
  | _ => none
section
variable {X : Cx} {e : Expr} {fa : Ex}
theorem RDs.reverse {K : PySem.W.Frag} {G : Hp} : ∀ {ds : List D} {vs : List V}, RDs K G ds vs → RDs K G ds.reverse vs.reverse
  | [], vs, h => by cases h; exact rfl
  | d :: ds, vs, ⟨x, xs, e1, e2, e3⟩ => by
    subst e1
    rw [List.reverse_cons, List.reverse_cons]
    exact (RDs.reverse e3).append (RDs.one e2)
theorem ev_revS {k : Nat} {p1 p2 p3 pos : Pos} (he : PEv X e fa) : PEv X (.Subscript e (.Slice none none (some (.UnaryOp .USub (.Constant (.int 1) k p1) p2)) p3) pos) (bUn revS fa) :=
  PE.imp (pe_revS he) fun σ H Q h => by
    have h := read1 (r := fun x H Q => ∃ l : List Nat, x = .str ⟨l.toArray⟩ ∧ l.length ≤ sizeLine ∧ Q (.str ⟨l.reverse.toArray⟩) H) (fun G H x dx z s hx e Q k => by
      unfold revS at e
      split at e
      · rename_i l
        split at e
        · rename_i hl
          cases e
          exact ⟨l, hx.str, by rw [sizeLine_num]; exact hl, k _ _ (.same rfl)⟩
        · cases e
      · cases e) h
    exact h
theorem ev_revL {k : Nat} {p1 p2 p3 pos : Pos} (he : PEv X e fa) : PEv X (.Subscript e (.Slice none none (some (.UnaryOp .USub (.Constant (.int 1) k p1) p2)) p3) pos) (bUn revL fa) :=
  PE.imp (pe_revL he) fun σ H Q h => by
    have h := read1 (r := fun x H Q => ∃ a xs, x = .ref a ∧ SqL X.K H a xs ∧ ∀ p, H p = none → Q (.ref p) (upd H p (.lst xs.reverse))) (fun G H x dx z s hx e Q k => by
      unfold revL at e
      split at e
      · rename_i l
        cases e
        obtain ⟨p, vs, rfl, h1, h2⟩ := hx.lst s
        exact ⟨p, vs, rfl, SqL.of h1, fun q hq => k _ _ (.lst hq h2.reverse)⟩
      · cases e) h
    exact h
end
end M
namespace M
open PySem PySem.Spec PyProof PyProof.Rows L2 TL
section
variable {prog : Program} {w : World} {A : Around} {E : Value → Shared → Prop} {s : Shared}
theorem draw_list {it t : Addr} {items : Array Value} (hne : t ≠ it) : ∀ (n i : Nat) (s : Shared) (Q : List Value → Shared → Prop), s.heap.IsListIter it t i → s.heap.IsList t items → i + n ≤ items.size →
    (∀ h', h'.IsListIter it t (i + n) → Heap.SameBut it s.heap h' → Q ((items.toList.drop i).take n) { s with heap := h' }) → wpAny (model prog w) A (draw (.ref it) n) Q E s
  | 0, i, s, Q, hit, _, _, hQ => by
    show wpAny _ _ (pure []) Q E s
    exact wpAny_pure (by simpa using hQ s.heap hit (Heap.SameBut.refl ..))
  | n + 1, i, s, Q, hit, ht, hle, hQ => by
    have hlt : i < items.size := by omega
    show wpAny _ _ (pyNext (.ref it) >>= _) Q E s
    refine wpAny_bind (wpAny_pyNext_list_item hit ht (x := items[i]) (by simp [hlt]) fun h₁ hit₁ hs₁ => ?_)
    refine wpAny_bind (wpAny_holding (draw_list hne n (i + 1) _ _ hit₁ (ht.extBut hs₁.extBut hne) (by omega) fun h₂ hit₂ hs₂ => wpAny_pure ?_))
    have hd : items.toList.drop i = items[i] :: items.toList.drop (i + 1) := by simp [List.drop_eq_getElem_cons, hlt]
    have := hQ h₂ (by rw [show i + (n + 1) = i + 1 + n by omega]; exact hit₂) (hs₁.trans hs₂)
    rw [hd, List.take_succ_cons] at this
    exact this
theorem unpackItems_list {t : Addr} {items : Array Value} {Q : List Value → Shared → Prop} (hh : A.handled = none) (ht : s.heap.IsList t items)
    (hQ : ∀ h', Heap.ExtBut s.heap.objs.size s.heap h' → Q items.toList { s with heap := h' }) : wpAny (model prog w) A (unpackItems (.ref t) items.size none) Q E s := by
  have hlt : t ≠ s.heap.objs.size := by obtain ⟨o, ho, _⟩ := ht; exact Nat.ne_of_lt (Heap.lt_size ho)
  unfold unpackItems
  refine wpAny_bind ?_
  · unfold notIterableAtAll
    refine wpAny_bind (wpAny_specialOf ht.typeIs slot_list_iter.lookup ?_)
    refine wpAny_pure ?_
    simp only [Bool.false_eq_true, if_false]
    refine wpAny_bind (wpAny_holding (wpAny_pyIter_list ht ?_))
    refine wpAny_bind (wpAny_holding (draw_list hlt items.size 0 _ _ ⟨_, Heap.get?_push_size _ rfl, rfl, rfl⟩ (ht.push _) (by omega) fun h₁ hit₁ hs₁ => ?_))
    have hall : List.take items.size (List.drop 0 items.toList) = items.toList := by
      rw [List.drop_zero]; exact List.take_of_length_le (by simp)
    rw [hall]
    rw [if_neg (by simp)]
    have ht₁ : h₁.IsList t items := (ht.push _).extBut hs₁.extBut hlt
    refine wpAny_bind (wpAny_holding (wpAny_pyNext_list_end hh hit₁ ht₁ (by simp) fun h₂ he₂ => ?_))
    simp only [Option.isSome_none, Bool.false_eq_true, if_false]
    refine wpAny_pure (hQ h₂ fun b o hb e => he₂ b o hb (hs₁.extBut b o hb (Heap.get?_push_of_some _ e)))
theorem assign_Tuple_list {env : Env} {elts : List Expr} {x1} {pos : Pos} {t : Addr} {items : Array Value} {Q : Unit → Shared → Prop} (hh : A.handled = none) (ht : s.heap.IsList t items)
    (hn : (assignEach elts env).length = items.size) (hstar : (assignEach elts env).findIdx? (·.1) = none)
    (h : ∀ h', Heap.ExtBut s.heap.objs.size s.heap h' → wpAny (model prog w) A (assignInOrder ((assignEach elts env).map (·.2)) items.toList) Q E { s with heap := h' }) :
    wpAny (model prog w) A (assign (.Tuple elts x1 pos) env (.ref t)) Q E s := by
  rw [assign_Tuple]
  refine wpAny_bind (wpAny_standAt ?_)
  unfold unpack
  rw [hn, hstar]
  exact wpAny_bind (wpAny_holding (unpackItems_list hh ht h))
end
def gLst (K : PySem.W.Frag) (n : Nat) (t : TGs) : TG := fun v σ H Q => ∃ a xs, v = .ref a ∧ SqL K H a xs ∧ xs.length = n ∧ t xs σ H Q
section
variable {X : Cx} {pos : Pos}
theorem pg_lst {es : List Expr} {k : Nat} {t : TGs} {n : Nat} (hc : X.calm = true) (h : PGs X es t)
    (hn : (assignEach es X.env).length = n := by rfl) (hst : (assignEach es X.env).findIdx? (·.1) = none := by rfl) : PG X (.Tuple es k pos) (gLst X.K n t) := by
  refine ⟨fun pins s σ H v u Q I r hw => ?_⟩
  obtain ⟨a, xs, e1, hq, hl, hw⟩ := hw
  subst e1
  cases r
  obtain ⟨its, rv, ht, hz⟩ := I.list hq
  refine assign_Tuple_list (I.ok.hd hc) ht.isList (by simp [hn, ← hl, rv.length]) hst fun h' hx => ?_
  have I1 : Inv X pins σ H { s with heap := h' } := I.kept (t' := s.toks) fun b o e => hx b o (Nat.ne_of_lt (Heap.lt_size e)) e
  exact h.run pins _ σ H xs _ Q I1 (by simpa using rv) hw
end
def bLsu (is : List Nat) : Bx := fun x ρ => match x with
  | .lst xs => bNames is xs ρ
  | _ => none
theorem gd_lst {K : PySem.W.Frag} {n : Nat} {is : List Nat} (hn : is.length = n) : GD K (gLst K n (gNames is)) (bLsu is) is := fun F G H σ ρ ρ' x v Q R h e k => by
  unfold bLsu at e
  split at e
  · rename_i xs
    obtain ⟨a, vs, e1, e2, e3⟩ := h
    refine ⟨a, vs, e1, SqL.of (R.gh _ _ e2), ?_, gd_names is σ ρ ρ' xs vs Q R e3 e k⟩
    rw [e3.length]
    have : ∀ (is : List Nat) (xs : List D) (ρ ρ' : Sl), bNames is xs ρ = some ρ' → xs.length = is.length := by
      intro is
      induction is with
      | nil => intro xs ρ ρ' e; cases xs with
        | nil => rfl
        | cons x xs => cases e
      | cons i is ih => intro xs ρ ρ' e; cases xs with
        | nil => cases e
        | cons x xs => simp [ih xs _ _ e]
    rw [this is xs ρ ρ' e, hn]
  · cases e
section
variable {X : Cx} {pos : Pos}
theorem gv_lst {es : List Expr} {is : List Nat} {k : Nat} (hc : X.calm = true) (h : NmTs X es is) (hn : (assignEach es X.env).length = is.length := by rfl) (hst : (assignEach es X.env).findIdx? (·.1) = none := by rfl) : PGv X (.Tuple es k pos) (bLsu is) is :=
  gv_of (pg_lst hc h.pgs hn hst) (gd_lst rfl)
end
@[simp] theorem bLsu_ap {is : List Nat} {xs : List D} {ρ : Sl} : bLsu is (.lst xs) ρ = bNames is xs ρ := rfl
end M
namespace M
open PySem PySem.Spec PyProof.Rows L2 TL
section
variable {κ : Ck} {p q : Addr} {c : CO}
@[simp] theorem lkC_nil : lkC [] p = none := rfl
@[simp] theorem lkC_hit : lkC ((p, c) :: κ) p = some c := by unfold lkC; rw [if_pos rfl]
theorem lkC_skip (h : q ≠ p) : lkC ((q, c) :: κ) p = lkC κ p := by conv => lhs; unfold lkC; rw [if_neg h]
theorem lkC_old {c' : CO} (hq : lkC κ q = none) (hp : lkC κ p = some c') : lkC ((q, c) :: κ) p = some c' := by
  rw [lkC_skip, hp]
  rintro rfl
  rw [hq] at hp; cases hp
theorem lkC_set : lkC (setC κ p c) q = if q = p then (lkC κ p).map fun _ => c else lkC κ q := by
  induction κ with
  | nil => simp [setC]
  | cons x κ ih =>
    obtain ⟨r, d⟩ := x
    by_cases hr : r = p
    · subst hr
      have e : setC ((r, d) :: κ) r c = (r, c) :: setC κ r c := by simp [setC]
      rw [e, lkC_hit]
      by_cases hq : q = r
      · subst hq; rw [if_pos rfl, lkC_hit]; rfl
      · rw [if_neg hq, lkC_skip (fun z => hq z.symm), lkC_skip (fun z => hq z.symm), ih, if_neg hq]
    · have e : setC ((r, d) :: κ) p c = (r, d) :: setC κ p c := by simp [setC, hr]
      rw [e]
      by_cases hq : q = r
      · subst hq
        rw [lkC_hit, lkC_hit, if_neg hr]
      · rw [lkC_skip (fun z => hq z.symm), lkC_skip (fun z => hq z.symm), ih, lkC_skip hr]
theorem lkC_set_self {c' : CO} (h : lkC κ p = some c') : lkC (setC κ p c) p = some c := by rw [lkC_set, if_pos rfl, h]; rfl
@[simp] theorem fz_non : fz κ .non = .non := rfl
@[simp] theorem fz_bl {b : Bool} : fz κ (.bl b) = .bl b := rfl
@[simp] theorem fz_int {i : Int} : fz κ (.int i) = .int i := rfl
@[simp] theorem fz_str {s : List Nat} : fz κ (.str s) = .str s := rfl
@[simp] theorem fz_lst {xs : List D} : fz κ (.lst xs) = .lst (fzs κ xs) := by rw [fz]
@[simp] theorem fz_tup {xs : List D} : fz κ (.tup xs) = .tup (fzs κ xs) := by rw [fz]
@[simp] theorem fz_scr {xs : List D} : fz κ (.scr xs) = .scr (fzs κ xs) := by rw [fz]
@[simp] theorem fz_exn {a dd : Addr} {ns : List Str} {xs : List D} : fz κ (.exn a dd ns xs) = .exn a dd ns (fzs κ xs) := by rw [fz]
@[simp] theorem fz_dct {ks : List L2.Key} {xs : List D} : fz κ (.dct ks xs) = .dct ks (fzs κ xs) := by rw [fz]
@[simp] theorem fz_ins {nm : Str} {ns : List Str} {xs : List D} : fz κ (.ins nm ns xs) = .ins nm ns (fzs κ xs) := by rw [fz]
theorem fz_ptr {p : Addr} : fz κ (.ptr (.ref p)) = match lkC κ p with
    | some (.lst xs) => .lst xs
    | some (.dct kvs) => .dct (kvs.map (·.1)) (kvs.map (·.2))
    | none => .ptr (.ref p) := by
  rw [fz]
  try (cases lkC κ p with
  | none => rfl
  | some c => cases c <;> rfl)
theorem fz_cell {xs : List D} (h : lkC κ p = some (.lst xs)) : fz κ (.ptr (.ref p)) = .lst xs := by rw [fz_ptr, h]
theorem fz_cellD {kvs : List (L2.Key × D)} (h : lkC κ p = some (.dct kvs)) : fz κ (.ptr (.ref p)) = .dct (kvs.map (·.1)) (kvs.map (·.2)) := by rw [fz_ptr, h]
@[simp] theorem fzs_nil : fzs κ [] = [] := rfl
@[simp] theorem fzs_cons {d : D} {ds : List D} : fzs κ (d :: ds) = fz κ d :: fzs κ ds := rfl
theorem fzs_map : ∀ ds : List D, fzs κ ds = ds.map (fz κ)
  | [] => rfl
  | d :: ds => by rw [fzs_cons, fzs_map ds]; rfl
mutual
def np : D → Bool
  | .ptr _ => false
  | .lst xs => nps xs
  | .tup xs => nps xs
  | .scr xs => nps xs
  | .ins _ _ xs => nps xs
  | .exn _ _ _ xs => nps xs
  | .dct _ xs => nps xs
  | .non => true
  | .bl _ => true
  | .int _ => true
  | .str _ => true
def nps : List D → Bool
  | [] => true
  | d :: ds => np d && nps ds
end
mutual
theorem fz_np : ∀ d : D, np d = true → fz κ d = d
  | .ptr v, h => by rw [np] at h; cases h
  | .lst xs, h => by rw [np] at h; rw [fz_lst, fzs_np xs h]
  | .tup xs, h => by rw [np] at h; rw [fz_tup, fzs_np xs h]
  | .scr xs, h => by rw [np] at h; rw [fz_scr, fzs_np xs h]
  | .ins _ _ xs, h => by rw [np] at h; rw [fz_ins, fzs_np xs h]
  | .exn _ _ _ xs, h => by rw [np] at h; rw [fz_exn, fzs_np xs h]
  | .dct _ xs, h => by rw [np] at h; rw [fz_dct, fzs_np xs h]
  | .non, _ => rfl
  | .bl _, _ => rfl
  | .int _, _ => rfl
  | .str _, _ => rfl
theorem fzs_np : ∀ ds : List D, nps ds = true → fzs κ ds = ds
  | [], _ => rfl
  | d :: ds, h => by
    rw [nps, Bool.and_eq_true] at h
    rw [fzs_cons, fz_np d h.1, fzs_np ds h.2]
end
@[simp] theorem nps_nil : nps [] = true := rfl
@[simp] theorem nps_cons {d : D} {ds : List D} : nps (d :: ds) = (np d && nps ds) := rfl
theorem nps_map {α : Type} {f : α → D} (h : ∀ a, np (f a) = true) : ∀ xs : List α, nps (xs.map f) = true
  | [] => rfl
  | x :: xs => by rw [List.map_cons, nps_cons, h, nps_map h xs]; rfl
@[simp] theorem np_lst {xs : List D} : np (.lst xs) = nps xs := by rw [np]
@[simp] theorem np_tup {xs : List D} : np (.tup xs) = nps xs := by rw [np]
@[simp] theorem np_scr {xs : List D} : np (.scr xs) = nps xs := by rw [np]
@[simp] theorem np_str {s : List Nat} : np (.str s) = true := rfl
@[simp] theorem np_int {s : Int} : np (.int s) = true := rfl
@[simp] theorem np_bl {s : Bool} : np (.bl s) = true := rfl
@[simp] theorem np_non : np .non = true := rfl
@[simp] theorem np_dct {ks : List L2.Key} {xs : List D} : np (.dct ks xs) = nps xs := by rw [np]
@[simp] theorem fzL_nil : fzL κ [] = [] := rfl
@[simp] theorem fzL_none {ρ : Sl} : fzL κ (none :: ρ) = none :: fzL κ ρ := rfl
@[simp] theorem fzL_d {x : D} {ρ : Sl} : fzL κ (some (.d x) :: ρ) = some (.d (fz κ x)) :: fzL κ ρ := rfl
@[simp] theorem fzL_own {b : Bool} {xs : List D} {ρ : Sl} : fzL κ (some (.own b xs) :: ρ) = some (.d (.lst (fzs κ xs))) :: fzL κ ρ := rfl
@[simp] theorem fzO_d {x : D} : fzO κ (.d x) = .d (fz κ x) := rfl
@[simp] theorem fzO_own {b : Bool} {xs : List D} : fzO κ (.own b xs) = .own b (fzs κ xs) := rfl
@[simp] theorem fzR_d {x : D} : fzR κ (.d x) = .d (fz κ x) := rfl
@[simp] theorem fzR_own {xs : List D} : fzR κ (.own xs) = .own (fzs κ xs) := rfl
@[simp] theorem flatR_d {x : D} : flatR (.d x) = flat x := rfl
@[simp] theorem flat_bl {b : Bool} : flat (.bl b) = true := rfl
@[simp] theorem flat_int {b : Int} : flat (.int b) = true := rfl
@[simp] theorem flat_str {b : List Nat} : flat (.str b) = true := rfl
@[simp] theorem flat_non : flat .non = true := rfl
end
section
variable {ρ : Sl} {κ : Ck} {fa : Ex} {t : Tx} {f body : NS} {nt nu : NT} {na nb nc : NE} {ns : NA} {n : Nat} {E : Er → Sl → Ck → Prop}
@[simp ↓] theorem n_Th {Q : Bool → Sl → Ck → Prop} : nTh t ρ κ Q E ↔ wT t (fzL κ ρ) fun b _ => Q b ρ κ := Iff.rfl
@[simp ↓] theorem n_ThE {Q : RV → Sl → Ck → Prop} : nThE fa ρ κ Q E ↔ wE fa (fzL κ ρ) fun r _ => flatR r = true ∧ Q r ρ κ := Iff.rfl
def cellW (Q : RV → Sl → Ck → Prop) : RV → Sl → Ck → Prop := fun r ρ κ => match r with
  | .own xs => ∀ p, lkC κ p = none → Q (.d (.ptr (.ref p))) ρ ((p, .lst xs) :: κ)
  | .d x => Q (.d x) ρ κ
  | .bor _ => False
@[simp ↓] theorem n_Cell {Q : RV → Sl → Ck → Prop} : nCell na ρ κ Q E ↔ na ρ κ (cellW Q) E := Iff.rfl
@[simp] theorem cellW_own {Q : RV → Sl → Ck → Prop} {xs : List D} : cellW Q (.own xs) ρ κ ↔ ∀ p, lkC κ p = none → Q (.d (.ptr (.ref p))) ρ ((p, .lst xs) :: κ) := Iff.rfl
@[simp] theorem cellW_d {Q : RV → Sl → Ck → Prop} {x : D} : cellW Q (.d x) ρ κ ↔ Q (.d x) ρ κ := Iff.rfl
@[simp ↓] theorem n_Dict0 {Q : RV → Sl → Ck → Prop} : nDict0 ρ κ Q E ↔ ∀ p, lkC κ p = none → Q (.d (.ptr (.ref p))) ρ ((p, .dct []) :: κ) := Iff.rfl
@[simp ↓] theorem n_Mu {g : List D → List D → Option (List D × D)} {Q : RV → Sl → Ck → Prop} : nMu g na ns ρ κ Q E ↔ na ρ κ (fun r ρ κ => ∃ p xs0, r = .d (.ptr (.ref p)) ∧ lkC κ p = some (.lst xs0) ∧
  ns ρ κ (fun rs ρ1 κ1 => ∃ xs ds ys z, lkC κ1 p = some (.lst xs) ∧ dsOf rs = some ds ∧ g xs ds = some (ys, z) ∧ Q (.d z) ρ1 (setC κ1 p (.lst ys))) E) E := Iff.rfl
@[simp ↓] theorem n_B {Q : Bool → Sl → Ck → Prop} : nB na ρ κ Q E ↔ na ρ κ (fun r ρ κ => ∃ b, r = .d (.bl b) ∧ Q b ρ κ) E := Iff.rfl
@[simp ↓] theorem n_Not {Q : Bool → Sl → Ck → Prop} : nNot nt ρ κ Q E ↔ nt ρ κ (fun b ρ κ => Q (!b) ρ κ) E := Iff.rfl
def andN (u : NT) (Q : Bool → Sl → Ck → Prop) (E : Er → Sl → Ck → Prop) : Bool → Sl → Ck → Prop := fun b ρ κ => match b with
  | true => u ρ κ Q E
  | false => Q false ρ κ
def orN (u : NT) (Q : Bool → Sl → Ck → Prop) (E : Er → Sl → Ck → Prop) : Bool → Sl → Ck → Prop := fun b ρ κ => match b with
  | true => Q true ρ κ
  | false => u ρ κ Q E
@[simp ↓] theorem andN_t {Q : Bool → Sl → Ck → Prop} : andN nu Q E true ρ κ ↔ nu ρ κ Q E := Iff.rfl
@[simp ↓] theorem andN_f {Q : Bool → Sl → Ck → Prop} : andN nu Q E false ρ κ ↔ Q false ρ κ := Iff.rfl
@[simp ↓] theorem orN_t {Q : Bool → Sl → Ck → Prop} : orN nu Q E true ρ κ ↔ Q true ρ κ := Iff.rfl
@[simp ↓] theorem orN_f {Q : Bool → Sl → Ck → Prop} : orN nu Q E false ρ κ ↔ nu ρ κ Q E := Iff.rfl
@[simp ↓] theorem n_And2 {Q : Bool → Sl → Ck → Prop} : nAnd2 nt nu ρ κ Q E ↔ nt ρ κ (andN nu Q E) E := by
  have e : (fun (b : Bool) (ρ1 : Sl) (κ1 : Ck) => (if b = true then nu else fun ρ κ Q _ => Q false ρ κ) ρ1 κ1 Q E) = andN nu Q E := by
    funext b ρ1 κ1
    cases b <;> rfl
  unfold nAnd2 nBind
  exact Iff.of_eq (congrArg (fun q => nt ρ κ q E) e)
@[simp ↓] theorem n_Or2 {Q : Bool → Sl → Ck → Prop} : nOr2 nt nu ρ κ Q E ↔ nt ρ κ (orN nu Q E) E := by
  have e : (fun (b : Bool) (ρ1 : Sl) (κ1 : Ck) => (if b = true then (fun ρ κ Q _ => Q true ρ κ) else nu) ρ1 κ1 Q E) = orN nu Q E := by
    funext b ρ1 κ1
    cases b <;> rfl
  unfold nOr2 nBind
  exact Iff.of_eq (congrArg (fun q => nt ρ κ q E) e)
@[simp ↓] theorem n_Op {g : D → D → Option RV} {Q : RV → Sl → Ck → Prop} : nOp g na nb ρ κ Q E ↔ na ρ κ (fun ra ρ κ => nb ρ κ (fun rb ρ κ => oq (pk ρ ra.nrm) fun x => oq (pk ρ rb.nrm) fun y => oq (g x y) fun z => Q z ρ κ) E) E := by
  have e : (fun (ra : RV) (ρ1 : Sl) (κ1 : Ck) => nb ρ1 κ1 (fun rb ρ κ => ∃ x y z, pk ρ ra.nrm = some x ∧ pk ρ rb.nrm = some y ∧ g x y = some z ∧ Q z ρ κ) E) =
      (fun ra ρ κ => nb ρ κ (fun rb ρ κ => oq (pk ρ ra.nrm) fun x => oq (pk ρ rb.nrm) fun y => oq (g x y) fun z => Q z ρ κ) E) := by
    funext ra ρ1 κ1
    congr 1
    funext rb ρ2 κ2
    refine propext ⟨?_, ?_⟩
    · rintro ⟨x, y, z, a, b, c, d⟩
      exact oq_iff.mpr ⟨x, a, oq_iff.mpr ⟨y, b, oq_iff.mpr ⟨z, c, d⟩⟩⟩
    · intro h
      obtain ⟨x, a, h⟩ := oq_iff.mp h
      obtain ⟨y, b, h⟩ := oq_iff.mp h
      obtain ⟨z, c, h⟩ := oq_iff.mp h
      exact ⟨x, y, z, a, b, c, h⟩
  unfold nOp nBind
  exact Iff.of_eq (congrArg (fun q => na ρ κ q E) e)
def putW (nb nc : NE) (Q : Fl → Sl → Ck → Prop) (E : Er → Sl → Ck → Prop) : RV → Sl → Ck → Prop := fun r ρ κ => match r with
  | .d x => nb ρ κ (fun ro ρ κ => nc ρ κ (fun rk ρ κ => ∃ p k ky kvs, ro = .d (.ptr (.ref p)) ∧ rk = .d k ∧ dkey k = some ky ∧ lkC κ p = some (.dct kvs) ∧ kvs.length < 16777216 ∧ Q .nx ρ (setC κ p (.dct (dput kvs ky x)))) E) E
  | _ => False
@[simp ↓] theorem putW_d {Q : Fl → Sl → Ck → Prop} {x : D} : putW nb nc Q E (.d x) ρ κ ↔ nb ρ κ (fun ro ρ κ => nc ρ κ (fun rk ρ κ => ∃ p k ky kvs, ro = .d (.ptr (.ref p)) ∧ rk = .d k ∧ dkey k = some ky ∧ lkC κ p = some (.dct kvs) ∧ kvs.length < 16777216 ∧ Q .nx ρ (setC κ p (.dct (dput kvs ky x)))) E) E := Iff.rfl
@[simp ↓] theorem n_PutD {Q : Fl → Sl → Ck → Prop} : nPutD na nb nc ρ κ Q E ↔ na ρ κ (putW nb nc Q E) E := by
  have e : (fun (r : RV) (ρ1 : Sl) (κ1 : Ck) => (match r with
    | .d x => nPut1 nb nc x
    | _ => fun _ _ _ _ => False : NS) ρ1 κ1 Q E) = putW nb nc Q E := by
    funext r ρ1 κ1
    cases r <;> rfl
  unfold nPutD nBind
  exact Iff.of_eq (congrArg (fun q => na ρ κ q E) e)
@[irreducible] def wG (bind : Bx) (body : NS) (xs : List D) (ρ : Sl) (κ : Ck) (Q : Fl → Sl → Ck → Prop) (E : Er → Sl → Ck → Prop) (_ : Dep Q := .mk) (_ : Dep E := .mk) : Prop := nGo bind body xs ρ κ Q E
theorem wG_def {bind : Bx} {xs : List D} {Q : Fl → Sl → Ck → Prop} : wG bind body xs ρ κ Q E ↔ nGo bind body xs ρ κ Q E := by
  unfold wG
  exact Iff.rfl
@[simp ↓] theorem n_For {it : Ix} {bind : Bx} {Q : Fl → Sl → Ck → Prop} : nFor it bind body ρ κ Q E ↔ wI it ρ fun xs ρ1 => wG bind body xs ρ1 κ Q E := by
  unfold nFor wI
  cases e : it ρ with
  | none => simp
  | some z =>
    obtain ⟨xs, ρ1⟩ := z
    simp only [okQ_some, wG_def]
    constructor
    · rintro ⟨ys, ρ2, e1, h⟩
      cases e1; exact h
    · exact fun h => ⟨xs, ρ1, rfl, h⟩
def turnN (P : Nat → Sl → Ck → Prop) (k : Nat) (Q : Fl → Sl → Ck → Prop) : Fl → Sl → Ck → Prop := fun fl ρ κ => match fl with
  | .nx => P (k + 1) ρ κ
  | .ct => P (k + 1) ρ κ
  | .bk => Q .nx ρ κ
  | .rt r => Q (.rt r) ρ κ
section
variable {P : Nat → Sl → Ck → Prop} {k : Nat} {Q : Fl → Sl → Ck → Prop}
@[simp ↓] theorem turnN_nx : turnN P k Q .nx ρ κ ↔ P (k + 1) ρ κ := Iff.rfl
@[simp ↓] theorem turnN_ct : turnN P k Q .ct ρ κ ↔ P (k + 1) ρ κ := Iff.rfl
@[simp ↓] theorem turnN_bk : turnN P k Q .bk ρ κ ↔ Q .nx ρ κ := Iff.rfl
@[simp ↓] theorem turnN_rt {r : RV} : turnN P k Q (.rt r) ρ κ ↔ Q (.rt r) ρ κ := Iff.rfl
end
theorem wG_inv {bind : Bx} {Q : Fl → Sl → Ck → Prop} (mb : Mono body) (P : Nat → Sl → Ck → Prop) {xs : List D} (h : P 0 ρ κ) (hs : ∀ i x ρ κ, xs[i]? = some x → P i ρ κ → oq (bind x ρ) fun ρ1 => body ρ1 κ (turnN P i Q) E)
    (he : ∀ ρ κ, P xs.length ρ κ → Q .nx ρ κ) : wG bind body xs ρ κ Q E := by
  rw [wG_def]
  suffices go : ∀ (ys : List D) (k : Nat) (ρ : Sl) (κ : Ck), xs.drop k = ys → k ≤ xs.length → P k ρ κ → nGo bind body ys ρ κ Q E from go xs 0 ρ κ rfl (Nat.zero_le _) h
  intro ys
  induction ys with
  | nil =>
    intro k ρ κ hd hk hp
    have : k = xs.length := by
      have := congrArg List.length hd
      simp at this
      omega
    subst this
    exact he ρ κ hp
  | cons y ys ih =>
    intro k ρ κ hd hk hp
    have hlt : k < xs.length := by
      rcases Nat.lt_or_ge k xs.length with h | h
      · exact h
      · rw [List.drop_eq_nil_of_le h] at hd; cases hd
    obtain ⟨x, hx, hd2⟩ := drop_of hlt
    rw [hd2] at hd
    cases hd
    obtain ⟨ρ1, e1, h1⟩ := oq_iff.mp (hs k _ ρ κ hx hp)
    refine ⟨ρ1, e1, mb _ _ _ _ _ _ (fun fl ρ2 κ2 z => ?_) (fun _ _ _ z => z) h1⟩
    cases fl with
    | nx => exact ih (k + 1) ρ2 κ2 rfl (by omega) z
    | ct => exact ih (k + 1) ρ2 κ2 rfl (by omega) z
    | bk => exact z
    | rt r => exact z
end
end M
namespace M
open PySem PySem.Spec PyProof.Rows L2 TL
@[simp] theorem revS_str {l : List Nat} : revS (.str l) = if l.length ≤ 16777216 then some (.d (.str l.reverse)) else none := rfl
@[simp] theorem revL_lst {l : List D} : revL (.lst l) = some (.own l.reverse) := rfl
theorem wE_orT {fa fb : Ex} {ρ : Sl} {QE : RV → Sl → Prop} : wE (bOrT fa fb) ρ QE ↔ wE fa ρ fun r ρ1 => oq (pk ρ1 r) fun d => oq (truD d) fun b => if b = true then QE r ρ1 else wE fb ρ1 QE := by
  unfold wE bOrT
  rcases fa ρ with _ | ⟨r, ρ1⟩
  · simp
  simp only [okQ_some]
  cases e1 : pk ρ1 r with
  | none => simp
  | some d =>
    simp only [oq_some]
    cases e2 : truD d with
    | none => simp
    | some b => cases b <;> simp
theorem oneOcc (c : Nat) (s : Array Nat) : True := trivial
@[simp] theorem lenK_dct {ks : List L2.Key} {xs : List D} : lenK [.dct ks xs] = some (.d (.int ks.length)) := rfl
@[simp] theorem lenK_lst {xs : List D} : lenK [.lst xs] = some (.d (.int xs.length)) := rfl
@[simp] theorem dkey_str {s : List Nat} : dkey (.str s) = some (.inr ⟨s.toArray⟩) := rfl
@[simp] theorem inK_dct {s : List Nat} {ks : List L2.Key} {xs : List D} : inK (.str s) (.dct ks xs) = some (.d (.bl (ks.any fun x => decide (x = .inr ⟨s.toArray⟩)))) := rfl
@[simp] theorem dput_nil {k : L2.Key} {v : D} : dput [] k v = [(k, v)] := rfl
@[simp] theorem insertD_2 {xs : List D} {i : Int} {x : D} : insertD xs [.int i, x] = if xs.length < 16777216 ∧ 0 ≤ i ∧ i < 9223372036854775808 then some (xs.take i.toNat ++ [x] ++ xs.drop i.toNat, .non) else none := by
  show (if xs.length < 16777216 ∧ 0 ≤ i ∧ i < 2 ^ 63 then _ else _) = _
  rw [show ((2 ^ 63) : Int) = 9223372036854775808 from by decide]
end M
namespace M
open PySem PySem.Spec PyProof.Rows L2 TL
open Builtin Builtin.Str StrLaws in
theorem occ_count (s : Str) (c : Nat) (limit : Nat) : ∀ (n j : Nat) (acc : Array Nat) (free : Nat), free ≤ j → acc.size + n ≤ limit →
    ((forIn (List.range' j n) (acc, free) (occBody s ⟨#[c]⟩ s.length limit)).run.fst).size = acc.size + ((List.range' j n).filter fun i => decide (s.cps.toList[i]? = some c)).length
  | 0, j, acc, free, _, _ => by simp
  | n + 1, j, acc, free, hf, hl => by
    rw [List.range'_succ, List.forIn_cons]
    unfold occBody
    by_cases hc : s.cps.toList[j]? = some c
    · have h1 := (subAt_one s c j).mpr hc
      have c1 : (((acc, free).fst.size < limit ∧ (acc, free).snd ≤ j) ∧ j + (Str.length ⟨#[c]⟩) ≤ s.length) ∧ subAt s ⟨#[c]⟩ j = true := ⟨⟨⟨by show acc.size < limit; omega, hf⟩, h1.1⟩, h1.2⟩
      rw [if_pos c1]
      have e : (Str.length ⟨#[c]⟩) = 1 := rfl
      have ih := occ_count s c limit n (j + 1) (acc.push j) (j + 1) (Nat.le_refl _) (by simp; omega)
      have ef : (j :: List.range' (j + 1) n).filter (fun i => decide (s.cps.toList[i]? = some c)) = j :: (List.range' (j + 1) n).filter (fun i => decide (s.cps.toList[i]? = some c)) := List.filter_cons_of_pos (by simpa using hc)
      rw [ef, List.length_cons]
      refine Eq.trans ih ?_
      simp
      omega
    · have c2 : ¬ ((((acc, free).fst.size < limit ∧ (acc, free).snd ≤ j) ∧ j + (Str.length ⟨#[c]⟩) ≤ s.length) ∧ subAt s ⟨#[c]⟩ j = true) := fun h => hc ((subAt_one s c j).mp ⟨h.1.2, h.2⟩)
      rw [if_neg c2]
      have ih := occ_count s c limit n (j + 1) acc free (by omega) (by omega)
      have ef : (j :: List.range' (j + 1) n).filter (fun i => decide (s.cps.toList[i]? = some c)) = (List.range' (j + 1) n).filter (fun i => decide (s.cps.toList[i]? = some c)) := List.filter_cons_of_neg (by simpa using hc)
      rw [ef]
      exact ih
theorem range_count (c : Nat) : ∀ (l : List Nat) (n : Nat), l.length ≤ n → ((List.range n).filter fun i => decide (l[i]? = some c)).length = (l.filter fun x => x == c).length
  | [], n, _ => by
    have : (List.range n).filter (fun i => decide (([] : List Nat)[i]? = some c)) = [] := List.filter_eq_nil_iff.mpr fun i _ => by simp
    rw [this]
    rfl
  | a :: l, 0, h => by simp at h
  | a :: l, n + 1, h => by
    have ih := range_count c l n (by simpa using h)
    rw [List.range_succ_eq_map, List.filter_cons, List.filter_map]
    have e : ((fun i => decide ((a :: l)[i]? = some c)) ∘ Nat.succ) = fun i => decide (l[i]? = some c) := by
      funext i
      simp
    rw [e, List.filter_cons]
    by_cases hc : a = c
    · subst hc
      simp [ih]
    · have h1 : (a == c) = false := by simpa using hc
      simp [h1, hc, ih]
theorem count_one (s : List Nat) (c : Nat) : Txt.count ⟨s.toArray⟩ ⟨#[c]⟩ = ((s.filter fun x => x == c).length : Nat) := by
  have hl : (Str.length ⟨s.toArray⟩) = s.length := by simp [Str.length]
  unfold Txt.count
  rw [hl, StrLaws.occ_eq]
  have h := occ_count ⟨s.toArray⟩ c (s.length + 1) (s.length + 1) 0 #[] 0 (Nat.le_refl _) (by simp)
  rw [hl] at h
  have e2 : (s.length + 1 - 0) = s.length + 1 := rfl
  rw [e2, Array.length_toList, h]
  have h2 := range_count c s (s.length + 1) (by omega)
  rw [← h2]
  simp [List.range_eq_range']
@[simp] theorem countD_one {s : List Nat} {c : Nat} : countD s [.str [c]] = some (.d (.int ((s.filter fun x => x == c).length : Nat))) := by
  show some (RV.d (.int (Txt.count ⟨s.toArray⟩ ⟨[c].toArray⟩))) = _
  rw [show (⟨[c].toArray⟩ : Str) = ⟨#[c]⟩ from rfl, count_one]
end M
namespace M
open PySem PySem.Spec PyProof.Rows L2 TL
theorem deps_le {k : Nat} : ∀ {l : List D}, (∀ x ∈ l, x.dep ≤ k) → deps l ≤ k
  | [], _ => Nat.zero_le _
  | x :: l, h => by
    have h1 := h x (by simp)
    have h2 := deps_le (l := l) fun y hy => h y (by simp [hy])
    simp [deps]
    omega
theorem okD_lst_of {l : List D} (h : ∀ x ∈ l, x.ok = true) (h' : ∀ x ∈ l, x.dep ≤ 60) : okD (.lst l) = true := by
  have h1 := oks_all h
  have h2 := deps_le h'
  simp [okD, D.ok, D.dep, h1]
  omega
theorem okD_tup_of {l : List D} (h : ∀ x ∈ l, x.ok = true) (h' : ∀ x ∈ l, x.dep ≤ 60) : okD (.tup l) = true := by
  have h1 := oks_all h
  have h2 := deps_le h'
  simp [okD, D.ok, D.dep, h1]
  omega
theorem okD_lst_map {α : Type} {f : α → D} (h : ∀ x, (f x).ok = true) (h' : ∀ x, (f x).dep ≤ 60) (l : List α) : okD (.lst (l.map f)) = true :=
  okD_lst_of (fun x hx => by obtain ⟨y, _, rfl⟩ := List.mem_map.mp hx; exact h y) fun x hx => by obtain ⟨y, _, rfl⟩ := List.mem_map.mp hx; exact h' y
end M
namespace M
open PySem PySem.Spec PyProof.Rows L2 TL
@[simp low] theorem fzL_any {κ : Ck} {o : Option SV} {ρ : Sl} : fzL κ (o :: ρ) = Option.map (fzS κ) o :: fzL κ ρ := rfl
theorem list4 {α : Type} {a b c d x : α} {i : Nat} (h : [a, b, c, d][i]? = some x) : (x = a ∨ x = b ∨ x = c ∨ x = d) ∧ i < 4 := by
  have hi : i < 4 := by
    have := (List.getElem?_eq_some_iff.mp h).1
    simpa using this
  refine ⟨?_, hi⟩
  have := List.mem_of_getElem? h
  simpa using this
theorem list2 {α : Type} {a b x : α} {i : Nat} (h : [a, b][i]? = some x) : (x = a ∨ x = b) ∧ i < 2 := by
  have hi : i < 2 := by
    have := (List.getElem?_eq_some_iff.mp h).1
    simpa using this
  refine ⟨?_, hi⟩
  have := List.mem_of_getElem? h
  simpa using this
end M
namespace M
open PySem PySem.Spec PyProof.Rows L2 TL
theorem n_cut {f g : NS} {ρ : Sl} {κ : Ck} {Q : Fl → Sl → Ck → Prop} {E : Er → Sl → Ck → Prop} (mf : Mono f) (P : Sl → Ck → Prop) (h1 : f ρ κ (fun fl ρ' κ' => fl = .nx ∧ P ρ' κ') E) (h2 : ∀ ρ' κ', P ρ' κ' → g ρ' κ' Q E) : nSeq f g ρ κ Q E := by
  rw [n_Seq]
  refine mf _ _ _ _ _ _ (fun fl ρ' κ' q => ?_) (fun _ _ _ z => z) h1
  obtain ⟨rfl, q⟩ := q
  exact h2 ρ' κ' q
end M
namespace M
open PySem PySem.Spec PyProof.Rows L2 TL
theorem wN.imp {F : Fn} {as : List SV} {κ : Ck} {Q Q' : RV → List SV → Ck → Prop} {E E' : Er → List SV → Ck → Prop} (mf : MonoF F) (h : wN F as κ Q E) (hq : ∀ r as κ, Q r as κ → Q' r as κ) (he : ∀ e as κ, E e as κ → E' e as κ) : wN F as κ Q' E' :=
  wN_def.mpr (mf _ _ _ _ _ _ hq he (wN_def.mp h))
end M
namespace M
open PySem PySem.Spec PyProof.Rows L2 TL
theorem pmk_own0 {X : Cx} {C : Addr} {x : Str} {p pos : Pos} (q : PySem.W.excIn X.K C [.type "ValueError", .type "Exception", .type "BaseException", .type "object"] "ValueError.__new__" = true) (gC : X.mg x = some (.ref C)) (kC : PySem.W.keepIn X.K (.ref C) = true) (r : Raises X (.ref C)) (hg : Gl X x)
    (hdb : (x == ("__debug__" : Str)) = false := by decide) : PMk X (.Call (.Name x p) [] [] pos) (fun _ H Q => Q (.ref C) none H) := by
  intro pins s σ H Q I h
  refine wpAny_Call_Name_kw (ld_glob I hg gC ?_ hdb)
  refine PySem.W.callWith_K0 I.kIn kC ?_
  show wpAny _ _ (call (.ref C) []) _ _ _
  obtain ⟨bm, N, nm, qn, bs, hdct, sn, sub, ab, col, dd, k0, k1, k2, k3, k5, mN, hC, hN, hni, T⟩ := exc_obj I.kIn q
  refine wpAny_call_exc_subT PySem.F.excBase_ValueError T hC hN hni (fun h' e hm => ?_) (Nat.zero_le _)
  exact L2.mk_of I hm r h (I.hok.gone hm.new)
structure ErZ (K : PySem.W.Frag) (mg : Str → Option Value) (x : Str) : Prop where
  ex : ∃ C : Addr, mg x = some (.ref C) ∧ PySem.W.excIn K C [.type "ValueError", .type "Exception", .type "BaseException", .type "object"] "ValueError.__new__" = true ∧ PySem.W.subIn K (.ref C) (.type "BaseException") = some true ∧ PySem.W.typeIn K (.ref C) = some (.type "type") ∧ PySem.W.keepIn K (.ref C) = true
theorem erz_of {K : PySem.W.Frag} {h : Heap} {mg : Str → Option Value} (X : K.In h) (G : h.Ns mainGlobals mg) {x : Str} {C : Addr} (a : PySem.W.nsIn K mainGlobals x = some (some (.ref C))) (q : PySem.W.excIn K C [.type "ValueError", .type "Exception", .type "BaseException", .type "object"] "ValueError.__new__" = true)
    (exC : PySem.W.subIn K (.ref C) (.type "BaseException") = some true) (tyC : PySem.W.typeIn K (.ref C) = some (.type "type")) (kC : PySem.W.keepIn K (.ref C) = true) : ErZ K mg x := ⟨C, PySem.W.mg_of X G a, q, exC, tyC, kC⟩
theorem sn_raise0 {X : Cx} {W : WX} {c : Str} {p pos pos' : Pos} (ok : ErZ X.K X.mg c) (hc : X.calm = true) (tk : Takes X W) (hg : Gl X c := by rfl) (hdb : (c == ("__debug__" : Str)) = false := by decide) :
    PSn X W (.Raise (some (.Call (.Name c p) [] [] pos)) none pos') (nRaise c [] (up aNil)) := by
  obtain ⟨C, hm, hq, hb, ht, hk⟩ := ok.ex
  refine PS.imp (ps_raise hc tk (pmk_own0 hq hm hk (raises_own hb ht) hg hdb)) fun Dn σ H q => ?_
  obtain ⟨F, G, ρ, κ, hk, R, q⟩ := q
  have q := q.2
  exact q σ G H hk (.ref C) none (Same.refl _) R ⟨⟨C, hm, rfl⟩, .inl rfl⟩
end M
namespace M
open PySem PySem.Spec PyProof.Rows L2 TL
def ItzS (x y : Str) : It :=
  ⟨fun i _ => i < x.cps.size ∧ i < y.cps.size,
    fun i H v H' => ∃ T c d, v = .ref T ∧ H T = none ∧ H' = upd H T (.tup [.str ⟨#[c]⟩, .str ⟨#[d]⟩]) ∧ x.cps[i]? = some c ∧ y.cps[i]? = some d,
    fun i _ => x.cps.size ≤ i ∨ y.cps.size ≤ i⟩
theorem turn_zipS {P : Program} {w : World} {K : PySem.W.Frag} {elts : List Expr} {kk : Nat} {tpos : Pos} {x y : Str} {t1 t2 : Tok} {z TI TO i1 i2 : Addr} (S : ZipSep2 z TI TO i1 i2 [i1] [i2]) :
    Turn P w K (.Tuple elts kk tpos) (ItzS x y) [z, TI, TO, i1, i2] z (fun i h => (i ≤ x.cps.size ∧ i ≤ y.cps.size) ∧ IsZip h z TI TO .none ∧ IsTupOf2 h TI (.ref i1) (.ref i2) ∧ (∃ a b, IsTupOf2 h TO a b) ∧ h.IsStrIter i1 (strIterType x) x t1 i ∧ h.IsStrIter i2 (strIterType y) y t2 i) where
  mem := by simp
  obj := fun i h st c hc => by
    obtain ⟨_, hz, hTI, ⟨x, y, hTO⟩, ⟨o1, e1, _, d1⟩, ⟨o2, e2, _, d2⟩⟩ := st
    have e' : c = z ∨ c = TI ∨ c = TO ∨ c = i1 ∨ c = i2 := by simpa using hc
    rcases e' with q | q | q | q | q
    · rw [q]; exact ⟨_, hz, fun v q => nomatch q⟩
    · rw [q]; exact ⟨_, hTI, fun v q => nomatch q⟩
    · rw [q]; exact ⟨_, hTO, fun v q => nomatch q⟩
    · rw [q]; exact ⟨o1, e1, fun v q => by rw [d1] at q; cases q⟩
    · rw [q]; exact ⟨o2, e2, fun v q => by rw [d2] at q; cases q⟩
  keep := fun i h h' st k => by
    obtain ⟨hn, hz, hTI, ⟨x, y, hTO⟩, ⟨o1, e1, r1⟩, ⟨o2, e2, r2⟩⟩ := st
    exact ⟨hn, k z (by simp) _ hz, k TI (by simp) _ hTI, ⟨x, y, k TO (by simp) _ hTO⟩, ⟨o1, k i1 (by simp) o1 e1, r1⟩, ⟨o2, k i2 (by simp) o2 e2, r2⟩⟩
  item := by
    intro X hP hw hK hc i pins s σ H E I hf st hg
    subst hP hw hK
    obtain ⟨hn, hz, hTI, ⟨x0, y0, hTO⟩, h1, h2⟩ := st
    have hzl : z < s.heap.objs.size := Heap.lt_size hz
    refine wpAny_pyNext_zipD2_item S (Draws.text (A := X.A.in1) (I.ok.hd hc) i1 x t1) (Draws.text (A := X.A.in1) (I.ok.hd hc) i2 y t2) hz hTI hTO h1 h2 hg.1 hg.2 fun u u2 h' tk p1 p2 z' TO' h1' h2' hT hsz hk => ?_
    obtain ⟨c, k1, hcx, rfl⟩ := p1
    obtain ⟨d, k2, hdx, rfl⟩ := p2
    refine ⟨_, rfl, wpAny_letOwnedTupleGo_zip (s := { s with heap := h', toks := tk }) z' fun h'' z'' sb => ?_⟩
    have hT2 : h''.get? s.heap.objs.size = some { cls := .type "tuple", data := .seq #[.str ⟨#[c]⟩ k1, .str ⟨#[d]⟩ k2] } := (sb.2 _ (Nat.ne_of_gt hzl)).trans hT
    have new : ObjOk X.prog X.w (upd H s.heap.objs.size (.tup [.str ⟨#[c]⟩, .str ⟨#[d]⟩])) h'' s.heap.objs.size (.tup [.str ⟨#[c]⟩, .str ⟨#[d]⟩]) :=
      ⟨by show 2 ≤ sizeLine; decide, [.str ⟨#[c]⟩ k1, .str ⟨#[d]⟩ k2], .cons ⟨k1, rfl⟩ (.cons ⟨k2, rfl⟩ .nil), ⟨_, hT2, rfl, _, rfl⟩⟩
    have I1 : L2.Inv X pins σ (upd H s.heap.objs.size (.tup [.str ⟨#[c]⟩, .str ⟨#[d]⟩])) { s with heap := h'', toks := tk } :=
      L2.Inv.turnedNew (t' := tk) (ch := [z, TI, TO, i1, i2]) I (fun c o hb q => (sb.2 c (fun q' => hb (by simp [q']))).trans (hk c o (fun q' => hb (by simp [q'])) (fun q' => hb (by simp [q'])) (fun q' => hb (by simp [q'])) (fun q' => hb (by simp [q'])) q)) hf (Nat.le_refl _) new
    refine ⟨.ref s.heap.objs.size, _, I1, rfl, ⟨_, c, d, rfl, I.hok.fresh (Nat.le_refl _), rfl, hcx, hdx⟩, ⟨⟨hg.1, hg.2⟩, z'', ?_, ⟨.str ⟨#[c]⟩ k1, .str ⟨#[d]⟩ k2, ?_⟩, ?_, ?_⟩, fun c hcm => ?_⟩
    · exact (sb.2 _ S.TIz).trans (hk _ _ S.TIz S.TITO S.TIi1 S.TIi2 hTI)
    · exact (sb.2 _ S.TOz).trans TO'
    · obtain ⟨o1, e1, r1⟩ := h1'
      exact ⟨o1, (sb.2 _ (Ne.symm S.zi1)).trans e1, r1⟩
    · obtain ⟨o2, e2, r2⟩ := h2'
      exact ⟨o2, (sb.2 _ (Ne.symm S.zi2)).trans e2, r2⟩
    · have hlt : c < s.heap.objs.size := by
        have e' : c = z ∨ c = TI ∨ c = TO ∨ c = i1 ∨ c = i2 := by simpa using hcm
        rcases e' with q | q | q | q | q
        · rw [q]; exact hzl
        · rw [q]; exact Heap.lt_size hTI
        · rw [q]; exact Heap.lt_size hTO
        · rw [q]; obtain ⟨_, e1, _⟩ := h1; exact Heap.lt_size e1
        · rw [q]; obtain ⟨_, e2, _⟩ := h2; exact Heap.lt_size e2
      rw [upd_ne (Nat.ne_of_lt hlt)]
      exact (hf c hcm).1
  done := by
    intro X hP hw hK hc i pins s σ H E I hf st hg
    subst hP hw hK
    obtain ⟨hn, hz, hTI, ⟨x0, y0, hTO⟩, h1, h2⟩ := st
    have hg : x.cps.size ≤ i ∨ y.cps.size ≤ i := hg
    refine wpAny_pyNext_zipD2_end S (Draws.text (A := X.A.in1) (I.ok.hd hc) i1 x t1) (Draws.text (A := X.A.in1) (I.ok.hd hc) i2 y t2) hz hTI hTO h1 h2 hn.1 hn.2 (by omega) fun h' tk hk => ⟨rfl, I.turnedL (t' := tk) (ch := [z, TI, TO, i1, i2]) (fun c o hb q =>
      hk c o (fun q' => hb (by simp [q'])) (fun q' => hb (by simp [q'])) (fun q' => hb (by simp [q'])) (fun q' => hb (by simp [q'])) q) hf⟩
  self := fun A i s Q E st h => wpAny_pyIter_zip st.2.1 h
def iZipS (ta : TA) : TI := fun σ H R => ta σ H fun vs H1 => ∃ x y, vs = [.str x, .str y] ∧ R (ItzS x y) H1
theorem pi_zipS {X : Cx} {e e2 : Expr} {ta : TA} {p pos tpos : Pos} {elts : List Expr} {kk : Nat} (hg : Gl X "zip") (hm : X.mg "zip" = none) (ha : PA X [e, e2] ta)
    (hs : starEach [e, e2] X.env = (false, eval e X.env) :: starEach [e2] X.env := by rfl) (hpl : (backTo pos (starEach [e2] X.env)).any (·.1) = false := by rfl) :
    PI X (.Tuple elts kk tpos) (.Call (.Name "zip" p) [e, e2] [] pos) (iZipS ta) := by
  refine ⟨fun pins s σ H R I h => ?_⟩
  refine Call_ (ld_blt I hg hm PyProof.Rows.boot_zip (PyProof.Rows.callWith_type1 (thn (ha.run pos pins s σ H _ I h) fun us s1 ⟨vs, H1, I1, r1, q1⟩ => ?_) hs hpl))
  obtain ⟨x, y, ex, q⟩ := q1
  subst ex
  cases r1 with
  | cons r rr =>
    cases rr with
    | cons r' rr =>
      cases rr
      obtain ⟨t1, rfl⟩ := r
      obtain ⟨t2, rfl⟩ := r'
      refine zip_begins2 (begins_text x t1) (begins_text y t2) trivial trivial fun h' hz hTI hTO g1 g2 hsz hk => wpAny_pyIter_zip hz ?_
      have I2 : L2.Inv X pins σ H1 { s1 with heap := h' } := I1.kept (t' := s1.toks) hk
      refine ⟨s1.heap.objs.size + 4, [s1.heap.objs.size + 4, s1.heap.objs.size + 2, s1.heap.objs.size + 3, s1.heap.objs.size, s1.heap.objs.size + 1], _, _, H1, rfl, I2, turn_zipS (t1 := t1) (t2 := t2) (zip_sep2 (N := s1.heap.objs.size) (fp1 := []) (fp2 := []) (by simp) (by simp)), ⟨⟨Nat.zero_le _, Nat.zero_le _⟩, hz, hTI, ⟨_, _, hTO⟩, ⟨_, g1, rfl, rfl⟩, ⟨_, g2, rfl, rfl⟩⟩, fun c hcm => ?_, q⟩
      have e' : c = s1.heap.objs.size + 4 ∨ c = s1.heap.objs.size + 2 ∨ c = s1.heap.objs.size + 3 ∨ c = s1.heap.objs.size ∨ c = s1.heap.objs.size + 1 := by simpa using hcm
      have hle : s1.heap.objs.size ≤ c := by
        rcases e' with z | z | z | z | z
        · rw [z]; exact Nat.le_add_right _ _
        · rw [z]; exact Nat.le_add_right _ _
        · rw [z]; exact Nat.le_add_right _ _
        · rw [z]; exact Nat.le_refl _
        · rw [z]; exact Nat.le_add_right _ _
      exact I1.fpOk hle (I1.hok.fresh hle)
def zipL (s t : List Nat) : List D := (s.zip t).map fun p => .tup [.str [p.1], .str [p.2]]
def iZipT (fa fb : Ex) : Ix := fun ρ => match fa ρ with
  | some (.d (.str s), ρ1) => match fb ρ1 with
    | some (.d (.str t), ρ2) => some (zipL s t, ρ2)
    | _ => none
  | _ => none
section
variable {X : Cx} {pos : Pos}
theorem jok_zipS {K : PySem.W.Frag} {G : Hp} {s t : List Nat} : JOk K (ItzS ⟨s.toArray⟩ ⟨t.toArray⟩) G (zipL s t) := fun H i _ => by
  have hl : (zipL s t).length = min s.length t.length := by simp [zipL]
  refine ⟨fun h => ?_, fun h => ?_, fun v H' d y e => ?_⟩
  · rw [hl] at h
    exact ⟨by simpa using (show i < s.length by omega), by simpa using (show i < t.length by omega)⟩
  · rw [hl] at h
    show (s.toArray.size ≤ i ∨ t.toArray.size ≤ i)
    simp
    omega
  · obtain ⟨T, a, b, rfl, hT, rfl, ha, hb⟩ := y
    have ha : s[i]? = some a := by simpa using ha
    have hb : t[i]? = some b := by simpa using hb
    have ed : d = .tup [.str [a], .str [b]] := by
      unfold zipL at e
      rw [List.getElem?_map] at e
      have ez : (s.zip t)[i]? = some (a, b) := by rw [List.getElem?_zip_eq_some]; exact ⟨ha, hb⟩
      rw [ez] at e
      exact (Option.some.inj e).symm
    subst ed
    exact .tup hT ⟨_, _, rfl, rfl, ⟨_, _, rfl, rfl, rfl⟩⟩
theorem iv_zipT {p pos tpos : Pos} {elts : List Expr} {kk : Nat} {a b : Expr} {f g : Ex} (hg : Gl X "zip") (hm : X.mg "zip" = none) (h : PEv X a f) (h2 : PEv X b g) (hst : starEach [a, b] X.env = [(false, eval a X.env), (false, eval b X.env)] := by rfl) (hst2 : starEach [b] X.env = [(false, eval b X.env)] := by rfl) :
    PIv X (.Tuple elts kk tpos) (.Call (.Name "zip" p) [a, b] [] pos) (iZipT f g) := by
  refine iv_of (pi_zipS hg hm (pa_cons h (pa_cons h2 pa_nil hst2) (by rw [hst, hst2])) (by rw [hst, hst2]) (by rw [hst2]; rfl)) fun σ H R h => ?_
  obtain ⟨F, G, ρ, xs, ρ', R0, e, k⟩ := h
  unfold iZipT at e
  split at e
  rotate_left
  · cases e
  rename_i s ρ1 e1
  split at e
  rotate_left
  · cases e
  rename_i t ρ2 e2
  cases e
  refine ⟨F, G, ρ, _, ρ1, R0, e1, fun v G1 H1 s1 R1 q1 => ⟨F, G1, ρ1, _, _, R1, e2, fun w G2 H2 s2 R2 q2 => ⟨⟨s.toArray⟩, ⟨t.toArray⟩, by cases (show v = .str ⟨s.toArray⟩ from q1); cases (show w = .str ⟨t.toArray⟩ from q2); rfl, ?_⟩⟩⟩
  exact k _ H2 G2 (s1.trans s2) R2 jok_zipS
end
section
variable {ρ : Sl} {fa fb : Ex} {QI : List D → Sl → Prop}
@[simp ↓] theorem wI_ZipT : wI (iZipT fa fb) ρ QI ↔ wE fa ρ fun r ρ1 => isStr r fun s => wE fb ρ1 fun q ρ2 => isStr q fun t => QI (zipL s t) ρ2 := by
  unfold wE wI iZipT
  rcases fa ρ with _ | ⟨r, ρ1⟩
  · simp
  cases r with
  | own x => simp [isStr]
  | bor x => simp [isStr]
  | d x =>
    cases x with
    | str s =>
      simp only [okQ_some, isStr_str]
      rcases e2 : fb ρ1 with _ | ⟨q, ρ2⟩
      · simp [e2]
      cases q with
      | own x => simp [isStr, e2]
      | bor x => simp [isStr, e2]
      | d y => cases y <;> simp [isStr, e2]
    | _ => simp [isStr]
end
end M
namespace K02
open PySem PySem.Spec PyProof.Rows L2 TL M
def F_law : Fx := fun as => match as with
  | [.d (.scr xs)] => if xs.all (fun x => match x with | .int _ => true | _ => false) = true ∧ xs.length ≤ 63 then some (.d (.bl true), as) else none
  | _ => none
end K02
namespace K02
open PySem PySem.Spec PyProof.Rows L2 TL M
def topS (i : Nat) : Stmt := PySem.Challenge.pw_stringbench_k02_periods_and_borders.main.body.getD i (.Pass ⟨0, 0, 0, 0⟩)
abbrev ecs : List Str := ["StringError", "InvalidWord", "Empty"]
abbrev flds : List Str := ["given"]
noncomputable section
abbrev s_InvalidWord : Stmt := inClass (topS 2) 0
theorem sc_InvalidWord : FnScope ["self", "given"] ["self", "given"] (defScope s_InvalidWord) := ⟨rfl, rfl, rfl, by decide +kernel, rfl, by decide +kernel, by decide +kernel⟩
abbrev s_is_letters : Stmt := topS 9
abbrev N_is_letters : List Str := ["value", "letters", "most", "sign"]
theorem sc_is_letters : FnScope N_is_letters ["value", "letters", "most"] (defScope s_is_letters) := ⟨rfl, rfl, rfl, by decide +kernel, rfl, by decide +kernel, by decide +kernel⟩
def B_is_letters : Sx := sSeq (sIf (bOr (bNot (bT (bFn (isiD "str") (aCons (bV 0) (aCons (bC (.ptr (.ty "str"))) aNil))))) (bT (bOp gtD (bFn lenD (aCons (bV 0) (aNil))) (bV 2)))) (sRet (bC (.bl false))) (sNx))
    (sRet (bFn allD (aCons (bComp (iTxt (bV 0)) [3] (bName 3) (bYes) (bOp inD (bV 3) (bSl (bC (.str [97, 98, 99, 100])) (oNone) (oSome (bV 1))))) (aNil))))
def F_is_letters : Fx := runB 4 3 B_is_letters
abbrev s_check_word : Stmt := topS 10
abbrev N_check_word : List Str := ["value", "letters", "most"]
theorem sc_check_word : FnScope N_check_word ["value", "letters", "most"] (defScope s_check_word) := ⟨rfl, rfl, rfl, by decide +kernel, rfl, by decide +kernel, by decide +kernel⟩
def B_check_word : NS := nIf (nTh (bNot (bT (bCall F_is_letters (aApp (aCons (bFz (bV 0)) (aCons (bFz (bV 1)) (aCons (bFz (bV 2)) (aNil)))) []))))) (nRaise "InvalidWord" ["given"] (up (aCons (bFz (bV 0)) (aNil)))) (up sNx)
def F_check_word : Fn := runN 3 3 (B_check_word)
abbrev s_divisor : Stmt := topS 11
abbrev N_divisor : List Str := ["one", "other"]
theorem sc_divisor : FnScope N_divisor ["one", "other"] (defScope s_divisor) := ⟨rfl, rfl, rfl, by decide +kernel, rfl, by decide +kernel, by decide +kernel⟩
def B_divisor : Sx := sSeq (sWhile 1000000 (bT (bOp neD (bV 1) (bC (.int 0)))) (sParN [0, 1] (aoCons (bFz (bV 1)) (aoCons (bOp modD (bV 0) (bV 1)) (aNil)))))
    (sRet (bV 0))
def F_divisor : Fx := runB 2 2 B_divisor
abbrev s_fraction : Stmt := topS 12
abbrev N_fraction : List Str := ["top", "bottom", "common"]
theorem sc_fraction : FnScope N_fraction ["top", "bottom"] (defScope s_fraction) := ⟨rfl, rfl, rfl, by decide +kernel, rfl, by decide +kernel, by decide +kernel⟩
def B_fraction : Sx := sSeq (sSet 2 (bCall F_divisor (aCons (bFz (bV 0)) (aCons (bFz (bV 1)) (aNil)))))
    (sRet (bTupE (aCons (bFz (bOp fdivD (bV 0) (bV 2))) (aCons (bFz (bOp fdivD (bV 1) (bV 2))) (aNil)))))
def F_fraction : Fx := runB 3 2 B_fraction
abbrev s_borders_table : Stmt := topS 14
abbrev N_borders_table : List Str := ["word", "found", "at", "size"]
theorem sc_borders_table : FnScope N_borders_table ["word"] (defScope s_borders_table) := ⟨rfl, rfl, rfl, by decide +kernel, rfl, by decide +kernel, by decide +kernel⟩
def B_borders_table : Sx := sSeq (sSet 1 (bLstE (aNil)))
    (sSeq (sFor (iRange1 (bFn lenD (aCons (bV 0) (aNil)))) (bName 2) (sSeq (sSet 3 (bFz (bIf (bT (bOp gtD (bV 2) (bC (.int 0)))) (bOp ixD (bV 1) (bOp subD (bV 2) (bC (.int 1)))) (bC (.int 0)))))
    (sSeq (sWhile 1000000 (bAnd (bT (bOp gtD (bV 3) (bC (.int 0)))) (bT (bOp neD (bOp ixD (bV 0) (bV 3)) (bOp ixD (bV 0) (bV 2))))) (sSet 3 (bOp ixD (bV 1) (bOp subD (bV 3) (bC (.int 1))))))
    (sDrop (bMu 1 appendD (aCons (bFz (bIf (bAnd (bT (bOp gtD (bV 2) (bC (.int 0)))) (bT (bOp eqD (bOp ixD (bV 0) (bV 3)) (bOp ixD (bV 0) (bV 2))))) (bOp addD (bV 3) (bC (.int 1))) (bC (.int 0)))) (aNil)))))))
    (sRet (bV 1)))
def F_borders_table : Fx := runB 4 1 B_borders_table
abbrev s_border_lengths : Stmt := topS 15
abbrev N_border_lengths : List Str := ["word", "table", "found", "size"]
theorem sc_border_lengths : FnScope N_border_lengths ["word"] (defScope s_border_lengths) := ⟨rfl, rfl, rfl, by decide +kernel, rfl, by decide +kernel, by decide +kernel⟩
def B_border_lengths : Sx := sSeq (sIf (bT (bOp eqD (bV 0) (bC (.str [])))) (sRet (bLstE (aNil))) (sNx))
    (sSeq (sParN [1, 2] (aoCons (bCall F_borders_table (aCons (bFz (bV 0)) (aNil))) (aoCons (bLstE (aNil)) (aNil))))
    (sSeq (sSet 3 (bOp ixD (bV 1) (bUn negD (bC (.int 1)))))
    (sSeq (sWhile 1000000 (bT (bOp gtD (bV 3) (bC (.int 0)))) (sSeq (sDrop (bMu 2 appendD (aCons (bFz (bV 3)) (aNil))))
    (sSet 3 (bOp ixD (bV 1) (bOp subD (bV 3) (bC (.int 1)))))))
    (sRet (bOp addD (bLstE (aCons (bFz (bC (.int 0))) (aNil))) (bUn revL (bV 2)))))))
def F_border_lengths : Fx := runB 4 1 B_border_lengths
abbrev s_periods_of : Stmt := topS 16
abbrev N_periods_of : List Str := ["word", "size"]
theorem sc_periods_of : FnScope N_periods_of ["word"] (defScope s_periods_of) := ⟨rfl, rfl, rfl, by decide +kernel, rfl, by decide +kernel, by decide +kernel⟩
def B_periods_of : Sx := sRet (bComp (iLst (bUn revL (bCall F_border_lengths (aCons (bFz (bV 0)) (aNil))))) [1] (bName 1) (bYes) (bOp subD (bFn lenD (aCons (bV 0) (aNil))) (bV 1)))
def F_periods_of : Fx := runB 2 1 B_periods_of
abbrev s_least_period_of : Stmt := topS 17
abbrev N_least_period_of : List Str := ["word"]
theorem sc_least_period_of : FnScope N_least_period_of ["word"] (defScope s_least_period_of) := ⟨rfl, rfl, rfl, by decide +kernel, rfl, by decide +kernel, by decide +kernel⟩
def B_least_period_of : Sx := sRet (bIf (bT (bOp neD (bV 0) (bC (.str [])))) (bOp subD (bFn lenD (aCons (bV 0) (aNil))) (bOp ixD (bCall F_borders_table (aCons (bFz (bV 0)) (aNil))) (bUn negD (bC (.int 1))))) (bC (.int 0)))
def F_least_period_of : Fx := runB 1 1 B_least_period_of
abbrev s_periods : Stmt := topS 18
abbrev N_periods : List Str := ["word"]
theorem sc_periods : FnScope N_periods ["word"] (defScope s_periods) := ⟨rfl, rfl, rfl, by decide +kernel, rfl, by decide +kernel, by decide +kernel⟩
def B_periods : NS := nSeq (nDrop (nCall F_check_word (nPick [.inl 0, .inr 0, .inr 1] [.int (4), .int (200)] (nApp 1 0 (up (aCons (bFz (bV 0)) (aNil))) (up aNil)))))
    (up (sRet (bCall F_periods_of (aCons (bFz (bV 0)) (aNil)))))
def F_periods : Fn := runN 1 1 (B_periods)
abbrev s_least_period : Stmt := topS 19
abbrev N_least_period : List Str := ["word"]
theorem sc_least_period : FnScope N_least_period ["word"] (defScope s_least_period) := ⟨rfl, rfl, rfl, by decide +kernel, rfl, by decide +kernel, by decide +kernel⟩
def B_least_period : NS := nSeq (nDrop (nCall F_check_word (nPick [.inl 0, .inr 0, .inr 1] [.int (4), .int (200)] (nApp 1 0 (up (aCons (bFz (bV 0)) (aNil))) (up aNil)))))
    (up (sRet (bCall F_least_period_of (aCons (bFz (bV 0)) (aNil)))))
def F_least_period : Fn := runN 1 1 (B_least_period)
abbrev s_borders : Stmt := topS 20
abbrev N_borders : List Str := ["word"]
theorem sc_borders : FnScope N_borders ["word"] (defScope s_borders) := ⟨rfl, rfl, rfl, by decide +kernel, rfl, by decide +kernel, by decide +kernel⟩
def B_borders : NS := nSeq (nDrop (nCall F_check_word (nPick [.inl 0, .inr 0, .inr 1] [.int (4), .int (200)] (nApp 1 0 (up (aCons (bFz (bV 0)) (aNil))) (up aNil)))))
    (up (sRet (bCall F_border_lengths (aCons (bFz (bV 0)) (aNil)))))
def F_borders : Fn := runN 1 1 (B_borders)
abbrev s_border_table : Stmt := topS 21
abbrev N_border_table : List Str := ["word"]
theorem sc_border_table : FnScope N_border_table ["word"] (defScope s_border_table) := ⟨rfl, rfl, rfl, by decide +kernel, rfl, by decide +kernel, by decide +kernel⟩
def B_border_table : NS := nSeq (nDrop (nCall F_check_word (nPick [.inl 0, .inr 0, .inr 1] [.int (4), .int (200)] (nApp 1 0 (up (aCons (bFz (bV 0)) (aNil))) (up aNil)))))
    (up (sRet (bCall F_borders_table (aCons (bFz (bV 0)) (aNil)))))
def F_border_table : Fn := runN 1 1 (B_border_table)
abbrev s_prefix_lengths : Stmt := topS 22
abbrev N_prefix_lengths : List Str := ["word", "found", "left", "right", "at", "size"]
theorem sc_prefix_lengths : FnScope N_prefix_lengths ["word"] (defScope s_prefix_lengths) := ⟨rfl, rfl, rfl, by decide +kernel, rfl, by decide +kernel, by decide +kernel⟩
def B_prefix_lengths : Sx := sSeq (sParN [1, 2, 3] (aoCons (bLstE (aNil)) (aoCons (bC (.int 0)) (aoCons (bC (.int 0)) (aNil)))))
    (sSeq (sFor (iRange1 (bFn lenD (aCons (bV 0) (aNil)))) (bName 4) (sSeq (sSet 5 (bFz (bIf (bT (bChain ltD ltD (bC (.int 0)) (bV 4) (bV 3))) (bFn minD (aCons (bOp ixD (bV 1) (bOp subD (bV 4) (bV 2))) (aCons (bOp subD (bV 3) (bV 4)) (aNil)))) (bC (.int 0)))))
    (sSeq (sWhile 1000000 (bAnd (bT (bOp ltD (bOp addD (bV 4) (bV 5)) (bFn lenD (aCons (bV 0) (aNil))))) (bT (bOp eqD (bOp ixD (bV 0) (bV 5)) (bOp ixD (bV 0) (bOp addD (bV 4) (bV 5)))))) (sSet 5 (bOp addD (bV 5) (bC (.int 1)))))
    (sSeq (sIf (bAnd (bT (bOp gtD (bV 4) (bC (.int 0)))) (bT (bOp gtD (bOp addD (bV 4) (bV 5)) (bV 3)))) (sParN [2, 3] (aoCons (bFz (bV 4)) (aoCons (bOp addD (bV 4) (bV 5)) (aNil)))) (sNx))
    (sDrop (bMu 1 appendD (aCons (bFz (bV 5)) (aNil))))))))
    (sRet (bV 1)))
def F_prefix_lengths : Fx := runB 6 1 B_prefix_lengths
abbrev s_prefix_table : Stmt := topS 23
abbrev N_prefix_table : List Str := ["word"]
theorem sc_prefix_table : FnScope N_prefix_table ["word"] (defScope s_prefix_table) := ⟨rfl, rfl, rfl, by decide +kernel, rfl, by decide +kernel, by decide +kernel⟩
def B_prefix_table : NS := nSeq (nDrop (nCall F_check_word (nPick [.inl 0, .inr 0, .inr 1] [.int (4), .int (200)] (nApp 1 0 (up (aCons (bFz (bV 0)) (aNil))) (up aNil)))))
    (up (sRet (bCall F_prefix_lengths (aCons (bFz (bV 0)) (aNil)))))
def F_prefix_table : Fn := runN 1 1 (B_prefix_table)
abbrev s_exponent : Stmt := topS 24
abbrev N_exponent : List Str := ["word"]
theorem sc_exponent : FnScope N_exponent ["word"] (defScope s_exponent) := ⟨rfl, rfl, rfl, by decide +kernel, rfl, by decide +kernel, by decide +kernel⟩
def B_exponent : NS := nSeq (nDrop (nCall F_check_word (nPick [.inl 0, .inr 0, .inr 1] [.int (4), .int (200)] (nApp 1 0 (up (aCons (bFz (bV 0)) (aNil))) (up aNil)))))
    (nSeq (nIf (nTh (bT (bOp eqD (bV 0) (bC (.str []))))) (nRaise "Empty" [] (up aNil)) (up sNx))
    (up (sRet (bCall F_fraction (aCons (bFz (bFn lenD (aCons (bV 0) (aNil)))) (aCons (bFz (bCall F_least_period_of (aCons (bFz (bV 0)) (aNil)))) (aNil)))))))
def F_exponent : Fn := runN 1 1 (B_exponent)
abbrev s__law_cell : Stmt := topS 26
abbrev N__law_cell : List Str := ["script", "k"]
theorem sc__law_cell : FnScope N__law_cell ["script", "k"] (defScope s__law_cell) := ⟨rfl, rfl, rfl, by decide +kernel, rfl, by decide +kernel, by decide +kernel⟩
def B__law_cell : Sx := sRet (bIf (bT (bOp ltD (bV 1) (bFn lenD (aCons (bV 0) (aNil))))) (bOp ixD (bV 0) (bV 1)) (bOp addD (bOp mulD (bC (.int 7129)) (bV 1)) (bOp modD (bFn intD (aCons (bFn sumD (aCons (bSl (bV 0) (oNone) (oSome (bC (.int 1)))) (aNil))) (aNil))) (bC (.int 1000003)))))
def F__law_cell : Fx := runB 2 2 B__law_cell
abbrev s__law_box : Stmt := topS 27
abbrev N__law_box : List Str := ["great"]
theorem sc__law_box : FnScope N__law_box ["great"] (defScope s__law_box) := ⟨rfl, rfl, rfl, by decide +kernel, rfl, by decide +kernel, by decide +kernel⟩
def B__law_box : Sx := sRet (bLstE (aCons (bFz (bFn absD (aCons (bV 0) (aNil)))) (aCons (bFz (bOp geD (bFn absD (aCons (bV 0) (aNil))) (bOp powD (bC (.int 10)) (bC (.int 18))))) (aCons (bFz (bOp modD (bFn intD (aCons (bFn absD (aCons (bV 0) (aNil))) (aNil))) (bC (.int 2147483629)))) (aCons (bFz (bC (.int 0))) (aNil))))))
def F__law_box : Fx := runB 1 1 B__law_box
abbrev s__law_take : Stmt := topS 28
abbrev N__law_take : List Str := ["box", "many", "digit", "mixed"]
theorem sc__law_take : FnScope N__law_take ["box", "many"] (defScope s__law_take) := ⟨rfl, rfl, rfl, by decide +kernel, rfl, by decide +kernel, by decide +kernel⟩
def B__law_take : Sx := sSeq (sIf (bAnd (bT (bOp ixD (bV 0) (bC (.int 1)))) (bT (bOp gtD (bOp ixD (bV 0) (bC (.int 0))) (bC (.int 0))))) (sSeq (sSet 2 (bOp modD (bFn intD (aCons (bOp ixD (bV 0) (bC (.int 0))) (aNil))) (bV 1)))
    (sSeq (sPut 0 (bC (.int 0)) (bOp fdivD (bOp ixD (bV 0) (bC (.int 0))) (bV 1)))
    (sRet (bV 2)))) (sNx))
    (sSeq (sPut 0 (bC (.int 3)) (bOp addD (bOp ixD (bV 0) (bC (.int 3))) (bC (.int 1))))
    (sSeq (sSet 3 (bOp modD (bFn intD (aCons (bOp powD (bOp addD (bOp addD (bOp ixD (bV 0) (bC (.int 2))) (bOp mulD (bC (.int 15485941)) (bOp ixD (bV 0) (bC (.int 3))))) (bC (.int 179424719))) (bC (.int 5))) (aNil))) (bC (.int 2147483647))))
    (sRet (bOp modD (bFn intD (aCons (bOp fdivD (bOp modD (bFn intD (aCons (bOp powD (bOp addD (bOp mulD (bV 3) (bC (.int 48271))) (bOp mulD (bC (.int 104761)) (bOp ixD (bV 0) (bC (.int 3))))) (bC (.int 3))) (aNil))) (bC (.int 2147483587))) (bC (.int 64))) (aNil))) (bV 1)))))
def F__law_take : Fx := runB 4 2 B__law_take
abbrev s__law_same : Stmt := topS 29
abbrev N__law_same : List Str := ["told", "due", "k", "key"]
theorem sc__law_same : FnScope N__law_same ["told", "due"] (defScope s__law_same) := ⟨rfl, rfl, rfl, by decide +kernel, rfl, by decide +kernel, by decide +kernel⟩
def B__law_same (rec : Fx) : Sx := sSeq (sIf (bOr (bT (bOp isD (bV 1) (bC .non))) (bT (bFn (isiD "bool") (aCons (bV 1) (aCons (bC (.ptr (.ty "bool"))) aNil))))) (sRet (bIf (bT (bOp isD (bV 1) (bC .non))) (bOp isD (bV 0) (bC .non)) (bAndV (bFn (isiD "bool") (aCons (bV 0) (aCons (bC (.ptr (.ty "bool"))) aNil))) (bOp eqD (bOp isD (bV 0) (bC (.bl true))) (bOp isD (bV 1) (bC (.bl true))))))) (sNx))
    (sSeq (sIf (bT (bFn (isiD "int") (aCons (bV 1) (aCons (bC (.ptr (.ty "int"))) aNil)))) (sRet (bAndV (bFn (isiD "int") (aCons (bV 0) (aCons (bC (.ptr (.ty "int"))) aNil))) (bAndV (bNotV (bFn (isiD "bool") (aCons (bV 0) (aCons (bC (.ptr (.ty "bool"))) aNil)))) (bOp eqD (bOp subD (bFn intD (aCons (bV 0) (aNil))) (bV 1)) (bC (.int 0)))))) (sNx))
    (sSeq (sIf (bT (bFn (isiD "str") (aCons (bV 1) (aCons (bC (.ptr (.ty "str"))) aNil)))) (sRet (bAndV (bFn (isiD "str") (aCons (bV 0) (aCons (bC (.ptr (.ty "str"))) aNil))) (bAndV (bOp eqD (bFn lenD (aCons (bV 0) (aNil))) (bFn lenD (aCons (bV 1) (aNil)))) (bOp eqD (bComp (iRange1 (bFn lenD (aCons (bV 1) (aNil)))) [2] (bName 2) (bT (bOp neD (bSl (bV 0) (oSome (bV 2)) (oSome (bOp addD (bV 2) (bC (.int 1))))) (bOp ixD (bV 1) (bV 2)))) (bV 2)) (bLstE (aNil)))))) (sNx))
    (sSeq (sIf (bT (bFn (isiD "dict") (aCons (bV 1) (aCons (bC (.ptr (.ty "dict"))) aNil)))) (sNever) (sNx))
    (sSeq (sIf (bOr (bNot (bT (bIsi2 "list" "tuple" (bV 1)))) (bOr (bT (bOp neD (bFn (isiD "list") (aCons (bV 0) (aCons (bC (.ptr (.ty "list"))) aNil))) (bFn (isiD "list") (aCons (bV 1) (aCons (bC (.ptr (.ty "list"))) aNil))))) (bT (bOp neD (bFn (isiD "tuple") (aCons (bV 0) (aCons (bC (.ptr (.ty "tuple"))) aNil))) (bFn (isiD "tuple") (aCons (bV 1) (aCons (bC (.ptr (.ty "tuple"))) aNil))))))) (sRet (bC (.bl false))) (sNx))
    (sRet (bAndV (bOp eqD (bFn lenD (aCons (bV 0) (aNil))) (bFn lenD (aCons (bV 1) (aNil)))) (bOp eqD (bComp (iRange1 (bFn lenD (aCons (bV 1) (aNil)))) [2] (bName 2) (bNot (bT (bCall rec (aCons (bFz (bOp ixD (bV 0) (bV 2))) (aCons (bFz (bOp ixD (bV 1) (bV 2))) (aNil)))))) (bV 2)) (bLstE (aNil)))))))))
def F__law_same : Nat → Fx
  | 0 => F_none
  | n + 1 => runB 4 2 (B__law_same (F__law_same n))
abbrev s__law_very : Stmt := topS 30
abbrev N__law_very : List Str := ["given", "value"]
theorem sc__law_very : FnScope N__law_very ["given", "value"] (defScope s__law_very) := ⟨rfl, rfl, rfl, by decide +kernel, rfl, by decide +kernel, by decide +kernel⟩
def B__law_very : NS := nSeq (nIf (nTh (bT (bFn (isiD "list") (aCons (bV 1) (aCons (bC (.ptr (.ty "list"))) aNil))))) (nSeq (nDrop (nMu appendD (up (bV 1)) (up (aCons (bFz (bC (.str [103, 114, 111, 119, 110]))) (aNil)))))
    (nRet (nThE (bAndV (bFn (isiD "list") (aCons (bV 0) (aCons (bC (.ptr (.ty "list"))) aNil))) (bAndV (bOp eqD (bFn lenK (aCons (bV 0) (aNil))) (bFn lenK (aCons (bV 1) (aNil)))) (bAndV (bFn (isiD "str") (aCons (bOp ixD (bV 0) (bUn negD (bC (.int 1)))) (aCons (bC (.ptr (.ty "str"))) aNil))) (bOp eqD (bOp ixD (bV 0) (bUn negD (bC (.int 1)))) (bC (.str [103, 114, 111, 119, 110]))))))))) (up sNx))
    (nSeq (nIf (nTh (bT (bFn (isiD "dict") (aCons (bV 1) (aCons (bC (.ptr (.ty "dict"))) aNil))))) (nSeq (nPutD (up (bC (.int 1))) (up (bV 1)) (up (bC (.str [103, 114, 111, 119, 110]))))
    (nRet (nThE (bAndV (bFn (isiD "dict") (aCons (bV 0) (aCons (bC (.ptr (.ty "dict"))) aNil))) (bAndV (bOp eqD (bFn lenK (aCons (bV 0) (aNil))) (bFn lenK (aCons (bV 1) (aNil)))) (bOp inK (bC (.str [103, 114, 111, 119, 110])) (bV 0))))))) (up sNx))
    (nRet (nThE (bCall (F__law_same 5) (aCons (bFz (bV 0)) (aCons (bFz (bV 1)) (aNil)))))))
def F__law_very : Fn := runN 2 2 (B__law_very)
abbrev s__law_drawn : Stmt := topS 32
abbrev N__law_drawn : List Str := ["box", "letters", "most", "k"]
theorem sc__law_drawn : FnScope N__law_drawn ["box", "letters", "most"] (defScope s__law_drawn) := ⟨rfl, rfl, rfl, by decide +kernel, rfl, by decide +kernel, by decide +kernel⟩
def B__law_drawn : Sx := sRet (bMt joinD (bC (.str [])) (aCons (bComp (iRange1 (bCall F__law_take (aCons (bV 0) (aCons (bFz (bOp addD (bV 2) (bC (.int 1)))) (aNil))))) [3] (bName 3) (bYes) (bOp ixD (bC (.str [97, 98, 99, 100])) (bCall F__law_take (aCons (bV 0) (aCons (bFz (bV 1)) (aNil)))))) (aNil)))
def F__law_drawn : Fx := runB 4 3 B__law_drawn
abbrev s__law_power : Stmt := topS 33
abbrev N__law_power : List Str := ["box", "letters", "most", "root", "size", "k"]
theorem sc__law_power : FnScope N__law_power ["box", "letters", "most"] (defScope s__law_power) := ⟨rfl, rfl, rfl, by decide +kernel, rfl, by decide +kernel, by decide +kernel⟩
def B__law_power : Sx := sSeq (sSet 3 (bMt joinD (bC (.str [])) (aCons (bComp (iRange1 (bOp addD (bC (.int 1)) (bCall F__law_take (aCons (bV 0) (aCons (bFz (bC (.int 4))) (aNil)))))) [5] (bName 5) (bYes) (bOp ixD (bC (.str [97, 98, 99, 100])) (bCall F__law_take (aCons (bV 0) (aCons (bFz (bV 1)) (aNil)))))) (aNil))))
    (sSeq (sSet 4 (bCall F__law_take (aCons (bV 0) (aCons (bFz (bOp addD (bV 2) (bC (.int 1)))) (aNil)))))
    (sRet (bSl (bOp mulS (bV 3) (bOp addD (bOp fdivD (bV 4) (bFn lenD (aCons (bV 3) (aNil)))) (bC (.int 1)))) (oNone) (oSome (bV 4)))))
def F__law_power : Fx := runB 6 3 B__law_power
abbrev s__law_rotation_word : Stmt := topS 34
abbrev N__law_rotation_word : List Str := ["box", "most", "q", "p", "c", "size", "k"]
theorem sc__law_rotation_word : FnScope N__law_rotation_word ["box", "most"] (defScope s__law_rotation_word) := ⟨rfl, rfl, rfl, by decide +kernel, rfl, by decide +kernel, by decide +kernel⟩
def B__law_rotation_word : Sx := sSeq (sSet 2 (bOp addD (bC (.int 1)) (bCall F__law_take (aCons (bV 0) (aCons (bFz (bC (.int 9))) (aNil))))))
    (sSeq (sBind (bTup [3, 4, 5]) (bTupE (aCons (bFz (bCall F__law_take (aCons (bV 0) (aCons (bFz (bOp addD (bV 2) (bC (.int 1)))) (aNil))))) (aCons (bFz (bCall F__law_take (aCons (bV 0) (aCons (bFz (bV 2)) (aNil))))) (aCons (bFz (bCall F__law_take (aCons (bV 0) (aCons (bFz (bOp addD (bV 1) (bC (.int 1)))) (aNil))))) (aNil))))))
    (sRet (bMt joinD (bC (.str [])) (aCons (bComp (iRange1 (bV 5)) [6] (bName 6) (bYes) (bOp ixD (bC (.str [97, 98])) (bFn intD (aCons (bOp gtD (bOp fdivD (bOp addD (bOp mulD (bV 3) (bOp addD (bV 6) (bC (.int 1)))) (bV 4)) (bV 2)) (bOp fdivD (bOp addD (bOp mulD (bV 3) (bV 6)) (bV 4)) (bV 2))) (aNil))))) (aNil)))))
def F__law_rotation_word : Fx := runB 7 2 B__law_rotation_word
abbrev s__law_thue : Stmt := topS 35
abbrev N__law_thue : List Str := ["start", "size", "k", "bit"]
theorem sc__law_thue : FnScope N__law_thue ["start", "size"] (defScope s__law_thue) := ⟨rfl, rfl, rfl, by decide +kernel, rfl, by decide +kernel, by decide +kernel⟩
def B__law_thue : Sx := sRet (bMt joinD (bC (.str [])) (aCons (bComp (iRangeB (bV 0) (bOp addD (bV 0) (bV 1))) [2] (bName 2) (bYes) (bOp ixD (bC (.str [97, 98])) (bOp andD (bFn lenD (aCons (bComp (iRange1 (bC (.int 40))) [3] (bName 3) (bTr (bOp andD (bOp shrD (bV 2) (bV 3)) (bC (.int 1)))) (bC (.int 1))) (aNil))) (bC (.int 1))))) (aNil)))
def F__law_thue : Fx := runB 4 2 B__law_thue
abbrev s__law_mirror : Stmt := topS 36
abbrev N__law_mirror : List Str := ["box", "letters", "most", "half"]
theorem sc__law_mirror : FnScope N__law_mirror ["box", "letters", "most"] (defScope s__law_mirror) := ⟨rfl, rfl, rfl, by decide +kernel, rfl, by decide +kernel, by decide +kernel⟩
def B__law_mirror : Sx := sSeq (sSet 3 (bCall F__law_drawn (aCons (bV 0) (aCons (bFz (bV 1)) (aCons (bFz (bOp fdivD (bV 2) (bC (.int 2)))) (aNil))))))
    (sRet (bIf (bT (bOp eqD (bCall F__law_take (aCons (bV 0) (aCons (bFz (bC (.int 2))) (aNil)))) (bC (.int 0)))) (bOp addD (bV 3) (bUn revS (bV 3))) (bOp addD (bV 3) (bSl (bUn revS (bV 3)) (oSome (bC (.int 1))) (oNone)))))
def F__law_mirror : Fx := runB 4 3 B__law_mirror
abbrev s__law_near : Stmt := topS 37
abbrev N__law_near : List Str := ["box", "word", "letters", "at", "way", "letter"]
theorem sc__law_near : FnScope N__law_near ["box", "word", "letters"] (defScope s__law_near) := ⟨rfl, rfl, rfl, by decide +kernel, rfl, by decide +kernel, by decide +kernel⟩
def B__law_near : Sx := sSeq (sParN [3, 4, 5] (aoCons (bCall F__law_take (aCons (bV 0) (aCons (bFz (bOp addD (bFn lenD (aCons (bV 1) (aNil))) (bC (.int 1)))) (aNil)))) (aoCons (bCall F__law_take (aCons (bV 0) (aCons (bFz (bC (.int 6))) (aNil)))) (aoCons (bOp ixD (bC (.str [97, 98, 99, 100])) (bCall F__law_take (aCons (bV 0) (aCons (bFz (bV 2)) (aNil))))) (aNil)))))
    (sSeq (sIf (bT (bOp eqD (bV 4) (bC (.int 0)))) (sRet (bOp addD (bOp addD (bSl (bV 1) (oNone) (oSome (bV 3))) (bV 5)) (bSl (bV 1) (oSome (bOp addD (bV 3) (bC (.int 1)))) (oNone)))) (sNx))
    (sSeq (sIf (bOr (bT (bOp eqD (bV 4) (bC (.int 1)))) (bT (bOp eqD (bV 1) (bC (.str []))))) (sRet (bOp addD (bOp addD (bSl (bV 1) (oNone) (oSome (bV 3))) (bV 5)) (bSl (bV 1) (oSome (bV 3)) (oNone)))) (sNx))
    (sSeq (sIf (bT (bOp eqD (bV 4) (bC (.int 2)))) (sRet (bOp addD (bSl (bV 1) (oNone) (oSome (bV 3))) (bSl (bV 1) (oSome (bOp addD (bV 3) (bC (.int 1)))) (oNone)))) (sNx))
    (sRet (bIf (bT (bOp eqD (bV 4) (bC (.int 3)))) (bOp addD (bOp addD (bOp addD (bSl (bV 1) (oNone) (oSome (bV 3))) (bSl (bV 1) (oSome (bOp addD (bV 3) (bC (.int 1)))) (oSome (bOp addD (bV 3) (bC (.int 2)))))) (bSl (bV 1) (oSome (bV 3)) (oSome (bOp addD (bV 3) (bC (.int 1)))))) (bSl (bV 1) (oSome (bOp addD (bV 3) (bC (.int 2)))) (oNone))) (bV 1))))))
def F__law_near : Fx := runB 6 3 B__law_near
abbrev s__law_word : Stmt := topS 38
abbrev N__law_word : List Str := ["box", "letters", "most", "way", "plain"]
theorem sc__law_word : FnScope N__law_word ["box", "letters", "most"] (defScope s__law_word) := ⟨rfl, rfl, rfl, by decide +kernel, rfl, by decide +kernel, by decide +kernel⟩
def B__law_word : Sx := sSeq (sSet 3 (bCall F__law_take (aCons (bV 0) (aCons (bFz (bC (.int 9))) (aNil)))))
    (sSeq (sIf (bT (bOp ltD (bV 3) (bC (.int 2)))) (sRet (bCall F__law_drawn (aCons (bV 0) (aCons (bFz (bV 1)) (aCons (bFz (bV 2)) (aNil)))))) (sNx))
    (sSeq (sIf (bT (bOp ltD (bV 3) (bC (.int 4)))) (sRet (bCall F__law_power (aCons (bV 0) (aCons (bFz (bV 1)) (aCons (bFz (bV 2)) (aNil)))))) (sNx))
    (sSeq (sIf (bT (bOp eqD (bV 3) (bC (.int 4)))) (sRet (bIf (bT (bOp gtD (bV 1) (bC (.int 1)))) (bCall F__law_rotation_word (aCons (bV 0) (aCons (bFz (bV 2)) (aNil)))) (bCall F__law_power (aCons (bV 0) (aCons (bFz (bC (.int 1))) (aCons (bFz (bV 2)) (aNil))))))) (sNx))
    (sSeq (sIf (bT (bOp eqD (bV 3) (bC (.int 5)))) (sRet (bIf (bT (bOp gtD (bV 1) (bC (.int 1)))) (bCall F__law_thue (aCons (bFz (bCall F__law_take (aCons (bV 0) (aCons (bFz (bC (.int 60))) (aNil))))) (aCons (bFz (bCall F__law_take (aCons (bV 0) (aCons (bFz (bOp addD (bV 2) (bC (.int 1)))) (aNil))))) (aNil)))) (bC (.str [])))) (sNx))
    (sSeq (sIf (bT (bOp eqD (bV 3) (bC (.int 6)))) (sRet (bCall F__law_mirror (aCons (bV 0) (aCons (bFz (bV 1)) (aCons (bFz (bV 2)) (aNil)))))) (sNx))
    (sSeq (sIf (bT (bOp eqD (bV 3) (bC (.int 7)))) (sRet (bSl (bCall F__law_near (aCons (bV 0) (aCons (bFz (bCall F__law_power (aCons (bV 0) (aCons (bFz (bV 1)) (aCons (bFz (bOp subD (bV 2) (bC (.int 1)))) (aNil)))))) (aCons (bFz (bV 1)) (aNil))))) (oNone) (oSome (bV 2)))) (sNx))
    (sSeq (sSet 4 (bLstE (aCons (bFz (bC (.str []))) (aCons (bFz (bC (.str [97]))) (aCons (bFz (bC (.str [97, 97]))) (aCons (bFz (bC (.str [97, 97, 97]))) (aCons (bFz (bC (.str [98]))) (aCons (bFz (bC (.str [97, 98]))) (aCons (bFz (bC (.str [98, 97]))) (aCons (bFz (bC (.str [97, 97, 98]))) (aCons (bFz (bC (.str [97, 98, 97, 97, 98, 97, 98, 97]))) (aNil))))))))))))
    (sRet (bSl (bOp ixD (bV 4) (bCall F__law_take (aCons (bV 0) (aCons (bFz (bIf (bT (bOp eqD (bV 1) (bC (.int 1)))) (bC (.int 4)) (bC (.int 9)))) (aNil))))) (oNone) (oSome (bV 2)))))))))))
def F__law_word : Fx := runB 5 3 B__law_word
abbrev s__law_bad_word : Stmt := topS 39
abbrev N__law_bad_word : List Str := ["box"]
theorem sc__law_bad_word : FnScope N__law_bad_word ["box"] (defScope s__law_bad_word) := ⟨rfl, rfl, rfl, by decide +kernel, rfl, by decide +kernel, by decide +kernel⟩
def B__law_bad_word : NS := nRet (nOp ixD (nLst (nCons (up (bC .non)) (nCons (up (bC (.int 7))) (nCons (up (bC (.str [97, 98, 101]))) (nCons (up (bC (.str [65]))) (nCons (nCell (up (bLstE (aCons (bFz (bC (.str [97]))) (aNil))))) (nCons (up (bTupE (aCons (bFz (bC (.str [97]))) (aCons (bFz (bC (.str [98]))) (aNil))))) (nCons (up (bOp mulS (bC (.str [97])) (bC (.int 201)))) (nCons (up (bC (.bl true))) (nCons (nDict0) (nCons (up (bC (.str [97, 32, 98]))) (nCons (up (bC (.str [97, 98, 10]))) (nCons (up (bUn negD (bC (.int 1)))) (up aNil)))))))))))))) (up (bCall F__law_take (aCons (bV 0) (aCons (bFz (bC (.int 12))) (aNil))))))
def F__law_bad_word : Fn := runN 1 1 (B__law_bad_word)
abbrev s__law_ask : Stmt := topS 40
abbrev N__law_ask : List Str := ["word", "value", "named", "e"]
theorem sc__law_ask : FnScope N__law_ask ["word", "value", "named"] (defScope s__law_ask) := ⟨rfl, rfl, rfl, by decide +kernel, rfl, by decide +kernel, by decide +kernel⟩
def B__law_ask : NS := nTry ecs (nSeq (nIf (nTh (bT (bOp eqD (bV 0) (bC (.str [112, 101, 114, 105, 111, 100, 115]))))) (nRet (nLst (nCons (up (bC (.str [116, 111, 108, 100]))) (nCons (nCell (nIfE (nTh (bT (bV 2))) (nCall F_periods (nPick [.inl 0] [] (nApp 0 1 (up aNil) (nCons (up (bFz (bV 1))) (up aNil))))) (nCall F_periods (nPick [.inl 0] [] (nApp 1 0 (up (aCons (bFz (bV 1)) (aNil))) (up aNil)))))) (up aNil))))) (up sNx))
    (nSeq (nIf (nTh (bT (bOp eqD (bV 0) (bC (.str [108, 101, 97, 115, 116]))))) (nRet (nLst (nCons (up (bC (.str [116, 111, 108, 100]))) (nCons (nCell (nIfE (nTh (bT (bV 2))) (nCall F_least_period (nPick [.inl 0] [] (nApp 0 1 (up aNil) (nCons (up (bFz (bV 1))) (up aNil))))) (nCall F_least_period (nPick [.inl 0] [] (nApp 1 0 (up (aCons (bFz (bV 1)) (aNil))) (up aNil)))))) (up aNil))))) (up sNx))
    (nSeq (nIf (nTh (bT (bOp eqD (bV 0) (bC (.str [98, 111, 114, 100, 101, 114, 115]))))) (nRet (nLst (nCons (up (bC (.str [116, 111, 108, 100]))) (nCons (nCell (nIfE (nTh (bT (bV 2))) (nCall F_borders (nPick [.inl 0] [] (nApp 0 1 (up aNil) (nCons (up (bFz (bV 1))) (up aNil))))) (nCall F_borders (nPick [.inl 0] [] (nApp 1 0 (up (aCons (bFz (bV 1)) (aNil))) (up aNil)))))) (up aNil))))) (up sNx))
    (nSeq (nIf (nTh (bT (bOp eqD (bV 0) (bC (.str [116, 97, 98, 108, 101]))))) (nRet (nLst (nCons (up (bC (.str [116, 111, 108, 100]))) (nCons (nCell (nIfE (nTh (bT (bV 2))) (nCall F_border_table (nPick [.inl 0] [] (nApp 0 1 (up aNil) (nCons (up (bFz (bV 1))) (up aNil))))) (nCall F_border_table (nPick [.inl 0] [] (nApp 1 0 (up (aCons (bFz (bV 1)) (aNil))) (up aNil)))))) (up aNil))))) (up sNx))
    (nSeq (nIf (nTh (bT (bOp eqD (bV 0) (bC (.str [112, 114, 101, 102, 105, 120, 101, 115]))))) (nRet (nLst (nCons (up (bC (.str [116, 111, 108, 100]))) (nCons (nCell (nIfE (nTh (bT (bV 2))) (nCall F_prefix_table (nPick [.inl 0] [] (nApp 0 1 (up aNil) (nCons (up (bFz (bV 1))) (up aNil))))) (nCall F_prefix_table (nPick [.inl 0] [] (nApp 1 0 (up (aCons (bFz (bV 1)) (aNil))) (up aNil)))))) (up aNil))))) (up sNx))
    (nRet (nLst (nCons (up (bC (.str [116, 111, 108, 100]))) (nCons (nCell (nIfE (nTh (bT (bV 2))) (nCall F_exponent (nPick [.inl 0] [] (nApp 0 1 (up aNil) (nCons (up (bFz (bV 1))) (up aNil))))) (nCall F_exponent (nPick [.inl 0] [] (nApp 1 0 (up (aCons (bFz (bV 1)) (aNil))) (up aNil)))))) (up aNil))))))))))
    (("InvalidWord", some 3, fun a dd => sRet (bLstE (aCons (bFz (bC (.str [119, 111, 114, 100]))) (aCons (bFz (bGiv a dd "given" (bV 3))) (aNil))))) :: ("Empty", none, fun a dd => sRet (bLstE (aCons (bFz (bC (.str [101, 109, 112, 116, 121]))) (aCons (bFz (bC .non)) (aNil))))) :: [])
def F__law_ask : Fn := runN 4 3 (B__law_ask)
abbrev s__law_fraction : Stmt := topS 41
abbrev N__law_fraction : List Str := ["top", "bottom", "both", "d"]
theorem sc__law_fraction : FnScope N__law_fraction ["top", "bottom"] (defScope s__law_fraction) := ⟨rfl, rfl, rfl, by decide +kernel, rfl, by decide +kernel, by decide +kernel⟩
def B__law_fraction : Sx := sSeq (sSet 2 (bFn maxD (aCons (bComp (iRange2 (bC (.int 1)) (bOp addD (bV 1) (bC (.int 1)))) [3] (bName 3) (bAnd (bT (bOp eqD (bOp modD (bFn intD (aCons (bV 0) (aNil))) (bV 3)) (bC (.int 0)))) (bT (bOp eqD (bOp modD (bFn intD (aCons (bV 1) (aNil))) (bV 3)) (bC (.int 0))))) (bV 3)) (aNil))))
    (sRet (bTupE (aCons (bFz (bOp fdivD (bV 0) (bV 2))) (aCons (bFz (bOp fdivD (bV 1) (bV 2))) (aNil)))))
def F__law_fraction : Fx := runB 4 2 B__law_fraction
abbrev s__law_common : Stmt := topS 42
abbrev N__law_common : List Str := ["word", "start", "size", "a", "b"]
theorem sc__law_common : FnScope N__law_common ["word", "start"] (defScope s__law_common) := ⟨rfl, rfl, rfl, by decide +kernel, rfl, by decide +kernel, by decide +kernel⟩
def B__law_common : Sx := sSeq (sSet 2 (bC (.int 0)))
    (sSeq (sFor (iZipT (bV 0) (bSl (bV 0) (oSome (bV 1)) (oNone))) (bTup [3, 4]) (sSeq (sIf (bT (bOp neD (bV 3) (bV 4))) (sRet (bV 2)) (sNx))
    (sSet 2 (bOp addD (bV 2) (bC (.int 1))))))
    (sRet (bV 2)))
def F__law_common : Fx := runB 5 2 B__law_common
abbrev s__law_right : Stmt := topS 43
abbrev N__law_right : List Str := ["word", "named", "size", "common", "due", "table", "start", "end", "asks", "name", "answer", "turn", "told", "k", "p"]
theorem sc__law_right : FnScope N__law_right ["word", "named"] (defScope s__law_right) := ⟨rfl, rfl, rfl, by decide +kernel, rfl, by decide +kernel, by decide +kernel⟩
def B__law_right : NS := nSeq (up (sSet 2 (bFn lenD (aCons (bV 0) (aNil)))))
    (nSeq (up (sSet 3 (bComp (iRange1 (bV 2)) [13] (bName 13) (bYes) (bCall F__law_common (aCons (bFz (bV 0)) (aCons (bFz (bV 13)) (aNil)))))))
    (nSeq (up (sSet 4 (bComp (iRange2 (bC (.int 1)) (bOp addD (bV 2) (bC (.int 1)))) [14] (bName 14) (bOr (bT (bOp eqD (bV 14) (bV 2))) (bT (bOp eqD (bOp ixD (bV 3) (bV 14)) (bOp subD (bV 2) (bV 14))))) (bV 14))))
    (nSeq (up (sSet 5 (bOp mulL (bLstE (aCons (bFz (bC (.int 0))) (aNil))) (bV 2))))
    (nSeq (up (sFor (iRange2 (bC (.int 1)) (bV 2)) (bName 6) (sFor (iRange2 (bV 6) (bOp addD (bV 6) (bOp ixD (bV 3) (bV 6)))) (bName 7) (sPut 5 (bV 7) (bFn maxD (aCons (bOp ixD (bV 5) (bV 7)) (aCons (bOp addD (bOp subD (bV 7) (bV 6)) (bC (.int 1))) (aNil))))))))
    (nSeq (up (sSet 8 (bLstE (aCons (bFz (bLstE (aCons (bFz (bC (.str [112, 101, 114, 105, 111, 100, 115]))) (aCons (bFz (bV 4)) (aNil))))) (aCons (bFz (bLstE (aCons (bFz (bC (.str [108, 101, 97, 115, 116]))) (aCons (bFz (bIf (bT (bOp neD (bV 4) (bLstE (aNil)))) (bOp ixD (bV 4) (bC (.int 0))) (bC (.int 0)))) (aNil))))) (aCons (bFz (bLstE (aCons (bFz (bC (.str [98, 111, 114, 100, 101, 114, 115]))) (aCons (bFz (bUn revL (bComp (iLst (bV 4)) [14] (bName 14) (bYes) (bOp subD (bV 2) (bV 14))))) (aNil))))) (aCons (bFz (bLstE (aCons (bFz (bC (.str [116, 97, 98, 108, 101]))) (aCons (bFz (bV 5)) (aNil))))) (aCons (bFz (bLstE (aCons (bFz (bC (.str [112, 114, 101, 102, 105, 120, 101, 115]))) (aCons (bFz (bV 3)) (aNil))))) (aNil)))))))))
    (nSeq (nFor (iLst (bV 8)) (bLsu [9, 10])
    (nFor (iRange1 (bC (.int 2))) (bName 11)
    (nSeq (nSet 12 (nCall F__law_ask (nPick [.inl 0, .inl 1, .inl 2] [] (nApp 3 0 (up (aCons (bFz (bV 9)) (aCons (bFz (bV 0)) (aCons (bFz (bV 1)) (aNil))))) (up aNil)))))
    (nSeq (nIf (nTh (bNot (bT (bCall (F__law_same 5) (aCons (bFz (bV 12)) (aCons (bFz (bLstE (aCons (bFz (bC (.str [116, 111, 108, 100]))) (aCons (bFz (bV 10)) (aNil))))) (aNil))))))) (up (sRet (bC (.bl false)))) (up sNx))
    (nSeq (nIf (nTh (bT (bFn (isiD "list") (aCons (bOp ixD (bV 12) (bC (.int 1))) (aCons (bC (.ptr (.ty "list"))) aNil))))) (nDrop (nMu insertD (up (bOp ixD (bV 12) (bC (.int 1)))) (up (aCons (bFz (bC (.int 0))) (aCons (bFz (bC (.int 7))) (aNil)))))) (up sNx))
    (up (sSet 1 (bNotV (bV 1)))))))))
    (nSeq (nSet 12 (nCall F__law_ask (nPick [.inl 0, .inl 1, .inl 2] [] (nApp 3 0 (up (aCons (bFz (bC (.str [101, 120, 112, 111, 110, 101, 110, 116]))) (aCons (bFz (bV 0)) (aCons (bFz (bV 1)) (aNil))))) (up aNil)))))
    (up (sRet (bCall (F__law_same 5) (aCons (bFz (bV 12)) (aCons (bFz (bIf (bT (bOp eqD (bV 2) (bC (.int 0)))) (bLstE (aCons (bFz (bC (.str [101, 109, 112, 116, 121]))) (aCons (bFz (bC .non)) (aNil)))) (bLstE (aCons (bFz (bC (.str [116, 111, 108, 100]))) (aCons (bFz (bCall F__law_fraction (aCons (bFz (bV 2)) (aCons (bFz (bOp ixD (bV 4) (bC (.int 0)))) (aNil))))) (aNil)))))) (aNil)))))))))))))
def F__law_right : Fn := runN 15 2 (B__law_right)
abbrev s_law : Stmt := topS 44
abbrev N_law : List Str := ["script", "great", "k", "box", "named", "letters", "word", "name", "bad", "told"]
theorem sc_law : FnScope N_law ["script"] (defScope s_law) := ⟨rfl, rfl, rfl, by decide +kernel, rfl, by decide +kernel, by decide +kernel⟩
def B_law : NS := nSeq (up (sSet 1 (bOp eqD (bOp modD (bFn intD (aCons (bFn sumD (aCons (bSl (bV 0) (oNone) (oSome (bC (.int 1)))) (aNil))) (aNil))) (bC (.int 8))) (bC (.int 6)))))
    (nSeq (nFor (iRange1 (bFn maxD (aCons (bC (.int 3)) (aCons (bFn minD (aCons (bC (.int 5)) (aCons (bFn lenD (aCons (bV 0) (aNil))) (aNil)))) (aNil))))) (bName 2)
    (nSeq (up (sSet 3 (bCall F__law_box (aCons (bFz (bCall F__law_cell (aCons (bFz (bV 0)) (aCons (bFz (bV 2)) (aNil))))) (aNil)))))
    (nSeq (up (sParN [4, 5] (aoCons (bOp eqD (bCall F__law_take (aCons (bV 3) (aCons (bFz (bC (.int 2))) (aNil)))) (bC (.int 0))) (aoCons (bOp addD (bC (.int 1)) (bCall F__law_take (aCons (bV 3) (aCons (bFz (bC (.int 4))) (aNil))))) (aNil)))))
    (nSeq (up (sSet 6 (bCall F__law_word (aCons (bV 3) (aCons (bFz (bV 5)) (aCons (bFz (bC (.int 30))) (aNil)))))))
    (nSeq (up (sIf (bAnd (bT (bV 1)) (bT (bOp eqD (bV 2) (bC (.int 0))))) (sSeq (sSet 6 (bOp ixD (bLstE (aCons (bFz (bOp mulS (bOp addD (bV 6) (bC (.str [97, 98]))) (bC (.int 100)))) (aCons (bFz (bCall F__law_thue (aCons (bFz (bCall F__law_take (aCons (bV 3) (aCons (bFz (bC (.int 60))) (aNil))))) (aCons (bFz (bC (.int 200))) (aNil))))) (aCons (bFz (bOp mulS (bC (.str [97])) (bC (.int 200)))) (aCons (bFz (bOp mulS (bOp addD (bOp mulS (bC (.str [97])) (bC (.int 99))) (bC (.str [98]))) (bC (.int 2)))) (aCons (bFz (bOp addD (bOp mulS (bCall F__law_rotation_word (aCons (bV 3) (aCons (bFz (bC (.int 200))) (aNil)))) (bC (.int 20))) (bOp mulS (bC (.str [97, 98, 97, 97, 98])) (bC (.int 40))))) (aNil))))))) (bCall F__law_take (aCons (bV 3) (aCons (bFz (bC (.int 5))) (aNil))))))
    (sSet 6 (bSl (bV 6) (oNone) (oSome (bOp addD (bC (.int 199)) (bCall F__law_take (aCons (bV 3) (aCons (bFz (bC (.int 2))) (aNil))))))))) (sNx)))
    (nSeq (nTry ecs (nIf (nOr2 (nNot (nB (nCall F__law_right (nPick [.inl 0, .inl 1] [] (nApp 2 0 (up (aCons (bFz (bV 6)) (aCons (bFz (bV 4)) (aNil)))) (up aNil)))))) (nOr2 (nNot (nB (nCall F__law_right (nPick [.inl 0, .inl 1] [] (nApp 2 0 (up (aCons (bFz (bCall F__law_near (aCons (bV 3) (aCons (bFz (bSl (bV 6) (oNone) (oSome (bC (.int 60))))) (aCons (bFz (bV 5)) (aNil)))))) (aCons (bFz (bNotV (bV 4))) (aNil)))) (up aNil)))))) (nNot (nB (nCall F__law_right (nPick [.inl 0, .inl 1] [] (nApp 2 0 (up (aCons (bFz (bSl (bV 6) (oNone) (oSome (bCall F__law_take (aCons (bV 3) (aCons (bFz (bC (.int 4))) (aNil))))))) (aCons (bFz (bV 4)) (aNil)))) (up aNil)))))))) (up (sRet (bC (.bl false)))) (up sNx))
    (("StringError", none, fun a dd => sRet (bC (.bl false))) :: []))
    (nFor (iLst (bLstE (aCons (bFz (bC (.str [112, 101, 114, 105, 111, 100, 115]))) (aCons (bFz (bC (.str [108, 101, 97, 115, 116]))) (aCons (bFz (bC (.str [98, 111, 114, 100, 101, 114, 115]))) (aCons (bFz (bC (.str [116, 97, 98, 108, 101]))) (aCons (bFz (bC (.str [112, 114, 101, 102, 105, 120, 101, 115]))) (aCons (bFz (bC (.str [101, 120, 112, 111, 110, 101, 110, 116]))) (aNil))))))))) (bName 7)
    (nSeq (nSet 8 (nCall F__law_bad_word (nPick [.inl 0] [] (nApp 1 0 (up (aCons (bV 3) (aNil))) (up aNil)))))
    (nSeq (nSet 9 (nCall F__law_ask (nPick [.inl 0, .inl 1, .inl 2] [] (nApp 3 0 (up (aCons (bFz (bV 7)) (aCons (bFz (bV 8)) (aCons (bFz (bV 4)) (aNil))))) (up aNil)))))
    (nSeq (nIf (nOr2 (nTh (bT (bOp neD (bOp ixD (bV 9) (bC (.int 0))) (bC (.str [119, 111, 114, 100]))))) (nNot (nB (nCall F__law_very (nPick [.inl 0, .inl 1] [] (nApp 2 0 (up (aCons (bFz (bOp ixD (bV 9) (bC (.int 1)))) (aCons (bV 8) (aNil)))) (up aNil))))))) (up (sRet (bC (.bl false)))) (up sNx))
    (up (sSet 4 (bNotV (bV 4))))))))))))))
    (up (sRet (bC (.bl true)))))
structure Tx (K : PySem.W.Frag) (mg : Str → Option Value) : Prop where
  b_abs : mg "abs" = none
  b_all : mg "all" = none
  b_bool : mg "bool" = none
  b_dict : mg "dict" = none
  b_int : mg "int" = none
  b_isinstance : mg "isinstance" = none
  b_len : mg "len" = none
  b_list : mg "list" = none
  b_max : mg "max" = none
  b_min : mg "min" = none
  b_range : mg "range" = none
  b_str : mg "str" = none
  b_sum : mg "sum" = none
  b_tuple : mg "tuple" = none
  b_zip : mg "zip" = none
  c_LETTERS : GStr mg "LETTERS" [97, 98, 99, 100]
  c_MOST_LETTERS : GInt mg "MOST_LETTERS" 200
  c_BASE : GInt mg "BASE" 4
  d_is_letters : DFD K mg "is_letters" (topS 9) [V.int 4, V.int 200]
  d_check_word : DFD K mg "check_word" (topS 10) (([.int (4), .int (200)] : List D).map litV)
  d_divisor : DF K mg "divisor" (topS 11)
  d_fraction : DF K mg "fraction" (topS 12)
  d_borders_table : DF K mg "borders_table" (topS 14)
  d_border_lengths : DF K mg "border_lengths" (topS 15)
  d_periods_of : DF K mg "periods_of" (topS 16)
  d_least_period_of : DF K mg "least_period_of" (topS 17)
  d_periods : DF K mg "periods" (topS 18)
  d_least_period : DF K mg "least_period" (topS 19)
  d_borders : DF K mg "borders" (topS 20)
  d_border_table : DF K mg "border_table" (topS 21)
  d_prefix_lengths : DF K mg "prefix_lengths" (topS 22)
  d_prefix_table : DF K mg "prefix_table" (topS 23)
  d_exponent : DF K mg "exponent" (topS 24)
  d__law_cell : DF K mg "_law_cell" (topS 26)
  d__law_box : DF K mg "_law_box" (topS 27)
  d__law_take : DF K mg "_law_take" (topS 28)
  d__law_same : DF K mg "_law_same" (topS 29)
  d__law_very : DF K mg "_law_very" (topS 30)
  d__law_drawn : DF K mg "_law_drawn" (topS 32)
  d__law_power : DF K mg "_law_power" (topS 33)
  d__law_rotation_word : DF K mg "_law_rotation_word" (topS 34)
  d__law_thue : DF K mg "_law_thue" (topS 35)
  d__law_mirror : DF K mg "_law_mirror" (topS 36)
  d__law_near : DF K mg "_law_near" (topS 37)
  d__law_word : DF K mg "_law_word" (topS 38)
  d__law_bad_word : DF K mg "_law_bad_word" (topS 39)
  d__law_ask : DF K mg "_law_ask" (topS 40)
  d__law_fraction : DF K mg "_law_fraction" (topS 41)
  d__law_common : DF K mg "_law_common" (topS 42)
  d__law_right : DF K mg "_law_right" (topS 43)
  e_InvalidWord : ErF K mg "InvalidWord" "InvalidWord.__init__" (inClass (topS 2) 0) ["given"]
  z_Empty : ErZ K mg "Empty"
  ect : ErTab K mg flds ecs
  h_law : ∀ args r as, F_law args = some (r, as) → runN N_law.length 1 (B_law) args [] (fun r' as' κ' => r = fzR κ' r' ∧ as = as'.map (fzO κ') ∧ ∀ i, r' ≠ .bor i) (fun _ _ _ => False)
variable {P : Program} {w : World} {K : PySem.W.Frag} {mg : Str → Option Value} {base : Heap}
theorem er_InvalidWord (T : Tx K mg) : ErOk P w K mg base "InvalidWord" 1 ["given"] := er_of (ps := ["self", "given"]) T.e_InvalidWord (fun f fd F => init_1 (N := ["self", "given"]) rfl F sc_InvalidWord (fun cdv A outer s H E => pss_one (ps_ost (pv 0) (pv 1)))) (fun _ _ _ _ _ _ us hl => match us, hl with | [_, _], _ => rfl)
theorem ok_is_letters (T : Tx K mg) : DefD P w K mg base "is_letters" 1 ["value", "letters", "most"] [V.int 4, V.int 200] F_is_letters :=
  defD_of (n := 1) T.d_is_letters (fun f fd F => by
   unfold F_is_letters
   exact fnD_ok (N := N_is_letters) (body := B_is_letters) F sc_is_letters fun cdv A outer s H E hr =>
    (bv_cons (sv_if (tv_w (wv_or (tv_not (tv_val (ev_fn call_isi fnd_isi rfl T.b_isinstance PyProof.Rows.boot_isinstance (av_cons (ev_n 0) (av_cons (ev_cls rfl T.b_str (by decide +kernel)) av_nil))))) (wv_one_or (tv_cmp op_gt opd_ib (nomark _) (ev_fn call_len fnd_len rfl T.b_len PySem.boot_len (av_cons (ev_n 0) av_nil)) (ev_n 2))))) (bv_one (sv_ret ev_bl)) bv_nil)
    (bv_one (sv_ret (ev_fn (cr_all rfl) fnd_all rfl T.b_all PyProof.Rows.boot_all (av_cons (ev_comp (own := [("sign", 3)]) rfl sc_is_letters.nd (blkOk_by (N := N_is_letters) (sc := defScope s_is_letters) (by decide +kernel)) (iv_txt (ev_n 0)) (fun _ _ _ _ _ => (gv_n 3 sc_is_letters.nd)) (fun _ _ _ _ _ => tsv_nil) (fun _ _ _ _ _ => (ev_cmp op_inX opd_in (by rfl) (ev_n 3) (ev_slice (ev_gstr T.c_LETTERS rfl) ov_none (ov_some (ev_n 1)))))) av_nil)))))) (by simp) rfl (fun j hj => match j, hj with | 0, _ => fun T kV doc pm an cdv ct us its h1 h2 => (match us, h1, its, h2 with | [_], _, [_, _], _ => ⟨_, rfl, rfl⟩) | 1, _ => fun T kV doc pm an cdv ct us its h1 h2 => (match us, h1, its, h2 with | [_, _], _, [_, _], _ => ⟨_, rfl, rfl⟩) | 2, _ => fun T kV doc pm an cdv ct us its h1 h2 => (match us, h1, its, h2 with | [_, _, _], _, [_, _], _ => ⟨_, rfl, rfl⟩) | (k + 3), h => absurd h (by simp))
theorem mo_check_word : Mono (B_check_word) := (mono_if mono_th (mono_raise mono_up) mono_up)
theorem mf_check_word : MonoF (F_check_word) := mono_run (mo_check_word)
theorem ok_check_word (T : Tx K mg) : DefG P w K mg base (L2.CX P w) "check_word" s_check_word 3 ["value", "letters", "most"] [.int (4), .int (200)] (spN K mg (F_check_word)) :=
  defG_ofD (dds := [.int (4), .int (200)]) T.d_check_word fun f fd F => fn_okND (N := N_check_word) (ps := ["value", "letters", "most"]) F sc_check_word (mo_check_word) fun cdv A outer s H E hr tk =>
    (bn_one (sn_if mono_th (mono_raise mono_up) mono_up (tn_th (tv_not (tv_val (ev_callD (ds := []) (ok_is_letters T) 2 (by decide) (fun _ => rfl) (hr.mono (by decide)) (av_cons (ev_fz (ev_n 0)) (av_cons (ev_fz (ev_n 1)) (av_cons (ev_fz (ev_n 2)) av_nil))))))) (bn_one (sn_raise (er_InvalidWord T) (by decide) rfl tk (hr.mono (by decide)) mono_up (an_up (av_cons (ev_fz (ev_n 0)) av_nil))) (mono_raise mono_up)) bn_nil) (mono_if mono_th (mono_raise mono_up) mono_up))
theorem fok_divisor (T : Tx K mg) (f : Addr) (fd : FuncData) (F : Fun K "divisor" "divisor" s_divisor f fd) : FnOk P w K mg base CX0 1 f fd ["one", "other"] (spV K F_divisor) := fn_ok (N := N_divisor) (body := B_divisor) F sc_divisor rfl fun cdv A outer s H E hr =>
    (bv_cons (sv_while PassesOwn.never (tv_cmp (op_neX (hr.units)) opd_ne (nomark _) (ev_n 1) ev_int) (bv_one (sv_par2 (fs := _) (i := 0) (j := 1) rfl sc_divisor.nd rfl rfl (by decide) rfl rfl (ao_cons (ev_fz (ev_n 1)) (ao_cons (ev_mod (ev_n 0) (ev_n 1)) ao_nil)) rfl)))
    (bv_one (sv_ret (ev_n 0))))
theorem ok_divisor (T : Tx K mg) : DefOk P w K mg base "divisor" 1 ["one", "other"] F_divisor := def_of T.d_divisor (fok_divisor T) (fun _ _ _ _ _ _ us hl => match us, hl with | [_, _], _ => rfl)
theorem fok_fraction (T : Tx K mg) (f : Addr) (fd : FuncData) (F : Fun K "fraction" "fraction" s_fraction f fd) : FnOk P w K mg base CX0 2 f fd ["top", "bottom"] (spV K F_fraction) := fn_ok (N := N_fraction) (body := B_fraction) F sc_fraction rfl fun cdv A outer s H E hr =>
    (bv_cons (sv_n 2 sc_fraction.nd (ev_call (ok_divisor T) (hr.mono (by decide)) (av_cons (ev_fz (ev_n 0)) (av_cons (ev_fz (ev_n 1)) av_nil))))
    (bv_one (sv_ret (ev_tupE (av_cons (ev_fz (ev_fdiv (ev_n 0) (ev_n 2))) (av_cons (ev_fz (ev_fdiv (ev_n 1) (ev_n 2))) av_nil))))))
theorem ok_fraction (T : Tx K mg) : DefOk P w K mg base "fraction" 2 ["top", "bottom"] F_fraction := def_of T.d_fraction (fok_fraction T) (fun _ _ _ _ _ _ us hl => match us, hl with | [_, _], _ => rfl)
theorem fok_borders_table (T : Tx K mg) (f : Addr) (fd : FuncData) (F : Fun K "borders_table" "borders_table" s_borders_table f fd) : FnOk P w K mg base CX0 1 f fd ["word"] (spV K F_borders_table) := fn_ok (N := N_borders_table) (body := B_borders_table) F sc_borders_table rfl fun cdv A outer s H E hr =>
    (bv_cons (sv_n 1 sc_borders_table.nd (ev_lstE av_nil))
    (bv_cons (sv_for PassesOwn.never rfl (iv_range1 rfl T.b_range (ev_fn call_len fnd_len rfl T.b_len PySem.boot_len (av_cons (ev_n 0) av_nil))) (gv_n 2 sc_borders_table.nd) (bv_cons (sv_n 3 sc_borders_table.nd (ev_fz (ev_ifE (tv_cmp op_gt opd_ib (nomark _) (ev_n 2) ev_int) (ev_item (fun _ _ => rfl) (ev_n 1) (ev_sub (ev_n 2) ev_int)) ev_int)))
    (bv_cons (sv_while PassesOwn.never (tv_w (wv_and (tv_cmp op_gt opd_ib (nomark _) (ev_n 3) ev_int) (wv_one_and (tv_cmp (op_neX (hr.units)) opd_ne (nomark _) (ev_item (fun _ _ => rfl) (ev_n 0) (ev_n 3)) (ev_item (fun _ _ => rfl) (ev_n 0) (ev_n 2)))))) (bv_one (sv_n 3 sc_borders_table.nd (ev_item (fun _ _ => rfl) (ev_n 1) (ev_sub (ev_n 3) ev_int)))))
    (bv_one (sv_expr (ev_append (pv 1) (av_cons (ev_fz (ev_ifE (tv_w (wv_and (tv_cmp op_gt opd_ib (nomark _) (ev_n 2) ev_int) (wv_one_and (tv_cmp (op_eqX (hr.units)) opd_eq (nomark _) (ev_item (fun _ _ => rfl) (ev_n 0) (ev_n 3)) (ev_item (fun _ _ => rfl) (ev_n 0) (ev_n 2)))))) (ev_add (ev_n 3) ev_int) ev_int)) av_nil)))))))
    (bv_one (sv_ret (ev_n 1)))))
theorem ok_borders_table (T : Tx K mg) : DefOk P w K mg base "borders_table" 1 ["word"] F_borders_table := def_of T.d_borders_table (fok_borders_table T) (fun _ _ _ _ _ _ us hl => match us, hl with | [_], _ => rfl)
theorem fok_border_lengths (T : Tx K mg) (f : Addr) (fd : FuncData) (F : Fun K "border_lengths" "border_lengths" s_border_lengths f fd) : FnOk P w K mg base CX0 2 f fd ["word"] (spV K F_border_lengths) := fn_ok (N := N_border_lengths) (body := B_border_lengths) F sc_border_lengths rfl fun cdv A outer s H E hr =>
    (bv_cons (sv_if (tv_cmp (op_eqX (hr.units)) opd_eq (nomark _) (ev_n 0) (ev_str (l := []) (by decide +kernel))) (bv_one (sv_ret (ev_lstE av_nil))) bv_nil)
    (bv_cons (sv_par2 (fs := _) (i := 1) (j := 2) rfl sc_border_lengths.nd rfl rfl (by decide) rfl rfl (ao_cons (ev_call (ok_borders_table T) (hr.mono (by decide)) (av_cons (ev_fz (ev_n 0)) av_nil)) (ao_cons (ev_lstE av_nil) ao_nil)) rfl)
    (bv_cons (sv_n 3 sc_border_lengths.nd (ev_item (fun _ _ => rfl) (ev_n 1) (ev_neg ev_int)))
    (bv_cons (sv_while PassesOwn.never (tv_cmp op_gt opd_ib (nomark _) (ev_n 3) ev_int) (bv_cons (sv_expr (ev_append (pv 2) (av_cons (ev_fz (ev_n 3)) av_nil)))
    (bv_one (sv_n 3 sc_border_lengths.nd (ev_item (fun _ _ => rfl) (ev_n 1) (ev_sub (ev_n 3) ev_int))))))
    (bv_one (sv_ret (ev_add (ev_lstE (av_cons (ev_fz ev_int) av_nil)) (ev_revL (ev_n 2)))))))))
theorem ok_border_lengths (T : Tx K mg) : DefOk P w K mg base "border_lengths" 2 ["word"] F_border_lengths := def_of T.d_border_lengths (fok_border_lengths T) (fun _ _ _ _ _ _ us hl => match us, hl with | [_], _ => rfl)
theorem fok_periods_of (T : Tx K mg) (f : Addr) (fd : FuncData) (F : Fun K "periods_of" "periods_of" s_periods_of f fd) : FnOk P w K mg base CX0 3 f fd ["word"] (spV K F_periods_of) := fn_ok (N := N_periods_of) (body := B_periods_of) F sc_periods_of rfl fun cdv A outer s H E hr =>
    (bv_one (sv_ret (ev_comp (own := [("size", 1)]) rfl sc_periods_of.nd (blkOk_by (N := N_periods_of) (sc := defScope s_periods_of) (by decide +kernel)) (iv_list (ev_revL (ev_call (ok_border_lengths T) (hr.mono (by decide)) (av_cons (ev_fz (ev_n 0)) av_nil)))) (fun _ _ _ _ _ => (gv_n 1 sc_periods_of.nd)) (fun _ _ _ _ _ => tsv_nil) (fun _ _ _ _ _ => (ev_sub (ev_fn call_len fnd_len rfl T.b_len PySem.boot_len (av_cons (ev_n 0) av_nil)) (ev_n 1))))))
theorem ok_periods_of (T : Tx K mg) : DefOk P w K mg base "periods_of" 3 ["word"] F_periods_of := def_of T.d_periods_of (fok_periods_of T) (fun _ _ _ _ _ _ us hl => match us, hl with | [_], _ => rfl)
theorem fok_least_period_of (T : Tx K mg) (f : Addr) (fd : FuncData) (F : Fun K "least_period_of" "least_period_of" s_least_period_of f fd) : FnOk P w K mg base CX0 2 f fd ["word"] (spV K F_least_period_of) := fn_ok (N := N_least_period_of) (body := B_least_period_of) F sc_least_period_of rfl fun cdv A outer s H E hr =>
    (bv_one (sv_ret (ev_ifE (tv_cmp (op_neX (hr.units)) opd_ne (nomark _) (ev_n 0) (ev_str (l := []) (by decide +kernel))) (ev_sub (ev_fn call_len fnd_len rfl T.b_len PySem.boot_len (av_cons (ev_n 0) av_nil)) (ev_item (fun _ _ => rfl) (ev_call (ok_borders_table T) (hr.mono (by decide)) (av_cons (ev_fz (ev_n 0)) av_nil)) (ev_neg ev_int))) ev_int)))
theorem ok_least_period_of (T : Tx K mg) : DefOk P w K mg base "least_period_of" 2 ["word"] F_least_period_of := def_of T.d_least_period_of (fok_least_period_of T) (fun _ _ _ _ _ _ us hl => match us, hl with | [_], _ => rfl)
theorem bg_check_word_1_ : BindG "check_word" s_check_word ["value", "letters", "most"] 1 [] [.inl 0, .inr 0, .inr 1] 2 := .inr ⟨by decide, fun _ _ _ _ _ _ _ us ws its h1 h2 h3 => match us, h1, ws, h2, its, h3 with | [_], _, [], _, [_, _], _ => ⟨_, rfl, rfl⟩⟩
theorem mo_periods : Mono (B_periods) := (mono_seq (mono_drop (mono_call (mf_check_word) (mono_pick (mono_app mono_up mono_up)))) mono_up)
theorem mf_periods : MonoF (F_periods) := mono_run (mo_periods)
theorem ok_periods (T : Tx K mg) : DefG P w K mg base (L2.CX P w) "periods" s_periods 4 ["word"] [] (spN K mg (F_periods)) :=
  defG_of T.d_periods fun f fd F => fn_okN (N := N_periods) (ps := ["word"]) F sc_periods (mo_periods) fun cdv A outer s H E hr tk =>
    (bn_cons (mono_drop (mono_call (mf_check_word) (mono_pick (mono_app mono_up mono_up)))) mono_up (sn_drop (mono_call (mf_check_word) (mono_pick (mono_app mono_up mono_up))) (en_callG (ok_check_word T) bg_check_word_1_ (lits_ok rfl) (mf_check_word) mono_up mono_up tk (hr.mono (by decide)) (an_up (av_cons (ev_fz (ev_n 0)) av_nil)) kn_nil))
    (bn_up (bv_nox (bv_one (sv_ret (ev_call (ok_periods_of T) (hr.mono (by decide)) (av_cons (ev_fz (ev_n 0)) av_nil)))))))
theorem mo_least_period : Mono (B_least_period) := (mono_seq (mono_drop (mono_call (mf_check_word) (mono_pick (mono_app mono_up mono_up)))) mono_up)
theorem mf_least_period : MonoF (F_least_period) := mono_run (mo_least_period)
theorem ok_least_period (T : Tx K mg) : DefG P w K mg base (L2.CX P w) "least_period" s_least_period 4 ["word"] [] (spN K mg (F_least_period)) :=
  defG_of T.d_least_period fun f fd F => fn_okN (N := N_least_period) (ps := ["word"]) F sc_least_period (mo_least_period) fun cdv A outer s H E hr tk =>
    (bn_cons (mono_drop (mono_call (mf_check_word) (mono_pick (mono_app mono_up mono_up)))) mono_up (sn_drop (mono_call (mf_check_word) (mono_pick (mono_app mono_up mono_up))) (en_callG (ok_check_word T) bg_check_word_1_ (lits_ok rfl) (mf_check_word) mono_up mono_up tk (hr.mono (by decide)) (an_up (av_cons (ev_fz (ev_n 0)) av_nil)) kn_nil))
    (bn_up (bv_nox (bv_one (sv_ret (ev_call (ok_least_period_of T) (hr.mono (by decide)) (av_cons (ev_fz (ev_n 0)) av_nil)))))))
theorem mo_borders : Mono (B_borders) := (mono_seq (mono_drop (mono_call (mf_check_word) (mono_pick (mono_app mono_up mono_up)))) mono_up)
theorem mf_borders : MonoF (F_borders) := mono_run (mo_borders)
theorem ok_borders (T : Tx K mg) : DefG P w K mg base (L2.CX P w) "borders" s_borders 4 ["word"] [] (spN K mg (F_borders)) :=
  defG_of T.d_borders fun f fd F => fn_okN (N := N_borders) (ps := ["word"]) F sc_borders (mo_borders) fun cdv A outer s H E hr tk =>
    (bn_cons (mono_drop (mono_call (mf_check_word) (mono_pick (mono_app mono_up mono_up)))) mono_up (sn_drop (mono_call (mf_check_word) (mono_pick (mono_app mono_up mono_up))) (en_callG (ok_check_word T) bg_check_word_1_ (lits_ok rfl) (mf_check_word) mono_up mono_up tk (hr.mono (by decide)) (an_up (av_cons (ev_fz (ev_n 0)) av_nil)) kn_nil))
    (bn_up (bv_nox (bv_one (sv_ret (ev_call (ok_border_lengths T) (hr.mono (by decide)) (av_cons (ev_fz (ev_n 0)) av_nil)))))))
theorem mo_border_table : Mono (B_border_table) := (mono_seq (mono_drop (mono_call (mf_check_word) (mono_pick (mono_app mono_up mono_up)))) mono_up)
theorem mf_border_table : MonoF (F_border_table) := mono_run (mo_border_table)
theorem ok_border_table (T : Tx K mg) : DefG P w K mg base (L2.CX P w) "border_table" s_border_table 4 ["word"] [] (spN K mg (F_border_table)) :=
  defG_of T.d_border_table fun f fd F => fn_okN (N := N_border_table) (ps := ["word"]) F sc_border_table (mo_border_table) fun cdv A outer s H E hr tk =>
    (bn_cons (mono_drop (mono_call (mf_check_word) (mono_pick (mono_app mono_up mono_up)))) mono_up (sn_drop (mono_call (mf_check_word) (mono_pick (mono_app mono_up mono_up))) (en_callG (ok_check_word T) bg_check_word_1_ (lits_ok rfl) (mf_check_word) mono_up mono_up tk (hr.mono (by decide)) (an_up (av_cons (ev_fz (ev_n 0)) av_nil)) kn_nil))
    (bn_up (bv_nox (bv_one (sv_ret (ev_call (ok_borders_table T) (hr.mono (by decide)) (av_cons (ev_fz (ev_n 0)) av_nil)))))))
theorem fok_prefix_lengths (T : Tx K mg) (f : Addr) (fd : FuncData) (F : Fun K "prefix_lengths" "prefix_lengths" s_prefix_lengths f fd) : FnOk P w K mg base CX0 1 f fd ["word"] (spV K F_prefix_lengths) := fn_ok (N := N_prefix_lengths) (body := B_prefix_lengths) F sc_prefix_lengths rfl fun cdv A outer s H E hr =>
    (bv_cons (sv_par3 (fs := _) (i := 1) (j := 2) (l := 3) rfl sc_prefix_lengths.nd rfl rfl rfl (by decide) (by decide) (by decide) rfl rfl rfl (ao_cons (ev_lstE av_nil) (ao_cons ev_int (ao_cons ev_int ao_nil))) rfl)
    (bv_cons (sv_for PassesOwn.never rfl (iv_range1 rfl T.b_range (ev_fn call_len fnd_len rfl T.b_len PySem.boot_len (av_cons (ev_n 0) av_nil))) (gv_n 4 sc_prefix_lengths.nd) (bv_cons (sv_n 5 sc_prefix_lengths.nd (ev_fz (ev_ifE (tv_chain op_lt op_lt opd_ib opd_ib ev_int (ev_n 4) (ev_n 3)) (ev_fn (CallR_or (call_min2 rfl) (cr_min rfl)) fnd_min rfl T.b_min PyProof.Rows.boot_min (av_cons (ev_item (fun _ _ => rfl) (ev_n 1) (ev_sub (ev_n 4) (ev_n 2))) (av_cons (ev_sub (ev_n 3) (ev_n 4)) av_nil))) ev_int)))
    (bv_cons (sv_while PassesOwn.never (tv_w (wv_and (tv_cmp op_lt opd_ib (nomark _) (ev_add (ev_n 4) (ev_n 5)) (ev_fn call_len fnd_len rfl T.b_len PySem.boot_len (av_cons (ev_n 0) av_nil))) (wv_one_and (tv_cmp (op_eqX (hr.units)) opd_eq (nomark _) (ev_item (fun _ _ => rfl) (ev_n 0) (ev_n 5)) (ev_item (fun _ _ => rfl) (ev_n 0) (ev_add (ev_n 4) (ev_n 5))))))) (bv_one (sv_n 5 sc_prefix_lengths.nd (ev_add (ev_n 5) ev_int))))
    (bv_cons (sv_if (tv_w (wv_and (tv_cmp op_gt opd_ib (nomark _) (ev_n 4) ev_int) (wv_one_and (tv_cmp op_gt opd_ib (nomark _) (ev_add (ev_n 4) (ev_n 5)) (ev_n 3))))) (bv_one (sv_par2 (fs := _) (i := 2) (j := 3) rfl sc_prefix_lengths.nd rfl rfl (by decide) rfl rfl (ao_cons (ev_fz (ev_n 4)) (ao_cons (ev_add (ev_n 4) (ev_n 5)) ao_nil)) rfl)) bv_nil)
    (bv_one (sv_expr (ev_append (pv 1) (av_cons (ev_fz (ev_n 5)) av_nil))))))))
    (bv_one (sv_ret (ev_n 1)))))
theorem ok_prefix_lengths (T : Tx K mg) : DefOk P w K mg base "prefix_lengths" 1 ["word"] F_prefix_lengths := def_of T.d_prefix_lengths (fok_prefix_lengths T) (fun _ _ _ _ _ _ us hl => match us, hl with | [_], _ => rfl)
theorem mo_prefix_table : Mono (B_prefix_table) := (mono_seq (mono_drop (mono_call (mf_check_word) (mono_pick (mono_app mono_up mono_up)))) mono_up)
theorem mf_prefix_table : MonoF (F_prefix_table) := mono_run (mo_prefix_table)
theorem ok_prefix_table (T : Tx K mg) : DefG P w K mg base (L2.CX P w) "prefix_table" s_prefix_table 4 ["word"] [] (spN K mg (F_prefix_table)) :=
  defG_of T.d_prefix_table fun f fd F => fn_okN (N := N_prefix_table) (ps := ["word"]) F sc_prefix_table (mo_prefix_table) fun cdv A outer s H E hr tk =>
    (bn_cons (mono_drop (mono_call (mf_check_word) (mono_pick (mono_app mono_up mono_up)))) mono_up (sn_drop (mono_call (mf_check_word) (mono_pick (mono_app mono_up mono_up))) (en_callG (ok_check_word T) bg_check_word_1_ (lits_ok rfl) (mf_check_word) mono_up mono_up tk (hr.mono (by decide)) (an_up (av_cons (ev_fz (ev_n 0)) av_nil)) kn_nil))
    (bn_up (bv_nox (bv_one (sv_ret (ev_call (ok_prefix_lengths T) (hr.mono (by decide)) (av_cons (ev_fz (ev_n 0)) av_nil)))))))
theorem mo_exponent : Mono (B_exponent) := (mono_seq (mono_drop (mono_call (mf_check_word) (mono_pick (mono_app mono_up mono_up)))) (mono_seq (mono_if mono_th (mono_raise mono_up) mono_up) mono_up))
theorem mf_exponent : MonoF (F_exponent) := mono_run (mo_exponent)
theorem ok_exponent (T : Tx K mg) : DefG P w K mg base (L2.CX P w) "exponent" s_exponent 4 ["word"] [] (spN K mg (F_exponent)) :=
  defG_of T.d_exponent fun f fd F => fn_okN (N := N_exponent) (ps := ["word"]) F sc_exponent (mo_exponent) fun cdv A outer s H E hr tk =>
    (bn_cons (mono_drop (mono_call (mf_check_word) (mono_pick (mono_app mono_up mono_up)))) (mono_seq (mono_if mono_th (mono_raise mono_up) mono_up) mono_up) (sn_drop (mono_call (mf_check_word) (mono_pick (mono_app mono_up mono_up))) (en_callG (ok_check_word T) bg_check_word_1_ (lits_ok rfl) (mf_check_word) mono_up mono_up tk (hr.mono (by decide)) (an_up (av_cons (ev_fz (ev_n 0)) av_nil)) kn_nil))
    (bn_cons (mono_if mono_th (mono_raise mono_up) mono_up) mono_up (sn_if mono_th (mono_raise mono_up) mono_up (tn_th (tv_cmp (op_eqX (hr.units)) opd_eq (nomark _) (ev_n 0) (ev_str (l := []) (by decide +kernel)))) (bn_one (sn_raise0 T.z_Empty rfl tk) (mono_raise mono_up)) bn_nil)
    (bn_up (bv_nox (bv_one (sv_ret (ev_call (ok_fraction T) (hr.mono (by decide)) (av_cons (ev_fz (ev_fn call_len fnd_len rfl T.b_len PySem.boot_len (av_cons (ev_n 0) av_nil))) (av_cons (ev_fz (ev_call (ok_least_period_of T) (hr.mono (by decide)) (av_cons (ev_fz (ev_n 0)) av_nil))) av_nil)))))))))
theorem fok__law_cell (T : Tx K mg) (f : Addr) (fd : FuncData) (F : Fun K "_law_cell" "_law_cell" s__law_cell f fd) : FnOk P w K mg base CX0 1 f fd ["script", "k"] (spV K F__law_cell) := fn_ok (N := N__law_cell) (body := B__law_cell) F sc__law_cell rfl fun cdv A outer s H E hr =>
    (bv_one (sv_ret (ev_ifE (tv_cmp op_lt opd_ib (nomark _) (ev_n 1) (ev_fn call_len fnd_len rfl T.b_len PySem.boot_len (av_cons (ev_n 0) av_nil))) (ev_item (fun _ _ => rfl) (ev_n 0) (ev_n 1)) (ev_add (ev_mul ev_int (ev_n 1)) (ev_mod (ev_ty call_int1 fnd_int rfl T.b_int PyProof.Rows.boot_int (av_cons (ev_fn (cr_sum rfl) fnd_sum rfl T.b_sum PyProof.Rows.boot_sum (av_cons (ev_slice (ev_n 0) ov_none (ov_some ev_int)) av_nil)) av_nil)) ev_int)))))
theorem ok__law_cell (T : Tx K mg) : DefOk P w K mg base "_law_cell" 1 ["script", "k"] F__law_cell := def_of T.d__law_cell (fok__law_cell T) (fun _ _ _ _ _ _ us hl => match us, hl with | [_, _], _ => rfl)
theorem fok__law_box (T : Tx K mg) (f : Addr) (fd : FuncData) (F : Fun K "_law_box" "_law_box" s__law_box f fd) : FnOk P w K mg base CX0 1 f fd ["great"] (spV K F__law_box) := fn_ok (N := N__law_box) (body := B__law_box) F sc__law_box rfl fun cdv A outer s H E hr =>
    (bv_one (sv_ret (ev_lstE (av_cons (ev_fz (ev_fn call_abs fnd_abs rfl T.b_abs PyProof.Rows.boot_abs (av_cons (ev_n 0) av_nil))) (av_cons (ev_fz (ev_cmp op_ge opd_ib (nomark _) (ev_fn call_abs fnd_abs rfl T.b_abs PyProof.Rows.boot_abs (av_cons (ev_n 0) av_nil)) (ev_pow ev_int ev_int))) (av_cons (ev_fz (ev_mod (ev_ty call_int1 fnd_int rfl T.b_int PyProof.Rows.boot_int (av_cons (ev_fn call_abs fnd_abs rfl T.b_abs PyProof.Rows.boot_abs (av_cons (ev_n 0) av_nil)) av_nil)) ev_int)) (av_cons (ev_fz ev_int) av_nil)))))))
theorem ok__law_box (T : Tx K mg) : DefOk P w K mg base "_law_box" 1 ["great"] F__law_box := def_of T.d__law_box (fok__law_box T) (fun _ _ _ _ _ _ us hl => match us, hl with | [_], _ => rfl)
theorem fok__law_take (T : Tx K mg) (f : Addr) (fd : FuncData) (F : Fun K "_law_take" "_law_take" s__law_take f fd) : FnOk P w K mg base CX0 1 f fd ["box", "many"] (spV K F__law_take) := fn_ok (N := N__law_take) (body := B__law_take) F sc__law_take rfl fun cdv A outer s H E hr =>
    (bv_cons (sv_if (tv_w (wv_and (tv_val (ev_item (fun _ _ => rfl) (ev_n 0) ev_int)) (wv_one_and (tv_cmp op_gt opd_ib (nomark _) (ev_item (fun _ _ => rfl) (ev_n 0) ev_int) ev_int)))) (bv_cons (sv_n 2 sc__law_take.nd (ev_mod (ev_ty call_int1 fnd_int rfl T.b_int PyProof.Rows.boot_int (av_cons (ev_item (fun _ _ => rfl) (ev_n 0) ev_int) av_nil)) (ev_n 1)))
    (bv_cons (sv_put (pv 0) ev_int (ev_fdiv (ev_item (fun _ _ => rfl) (ev_n 0) ev_int) (ev_n 1)))
    (bv_one (sv_ret (ev_n 2))))) bv_nil)
    (bv_cons (sv_put (pv 0) ev_int (ev_add (ev_item (fun _ _ => rfl) (ev_n 0) ev_int) ev_int))
    (bv_cons (sv_n 3 sc__law_take.nd (ev_mod (ev_ty call_int1 fnd_int rfl T.b_int PyProof.Rows.boot_int (av_cons (ev_pow (ev_add (ev_add (ev_item (fun _ _ => rfl) (ev_n 0) ev_int) (ev_mul ev_int (ev_item (fun _ _ => rfl) (ev_n 0) ev_int))) ev_int) ev_int) av_nil)) ev_int))
    (bv_one (sv_ret (ev_mod (ev_ty call_int1 fnd_int rfl T.b_int PyProof.Rows.boot_int (av_cons (ev_fdiv (ev_mod (ev_ty call_int1 fnd_int rfl T.b_int PyProof.Rows.boot_int (av_cons (ev_pow (ev_add (ev_mul (ev_n 3) ev_int) (ev_mul ev_int (ev_item (fun _ _ => rfl) (ev_n 0) ev_int))) ev_int) av_nil)) ev_int) ev_int) av_nil)) (ev_n 1)))))))
theorem ok__law_take (T : Tx K mg) : DefOk P w K mg base "_law_take" 1 ["box", "many"] F__law_take := def_of T.d__law_take (fok__law_take T) (fun _ _ _ _ _ _ us hl => match us, hl with | [_, _], _ => rfl)
theorem ok__law_same (T : Tx K mg) : ∀ n : Nat, DefOk P w K mg base "_law_same" (1 + n) ["told", "due"] (F__law_same n)
  | 0 => def_of T.d__law_same (fun f fd F => by unfold F__law_same; exact fn_none F sc__law_same) (fun _ _ _ _ _ _ us hl => match us, hl with | [_, _], _ => rfl)
  | n + 1 => def_of T.d__law_same (fun f fd F => fn_ok (N := N__law_same) (body := B__law_same (F__law_same n)) F sc__law_same rfl fun cdv A outer s H E hr =>
    (bv_cons (sv_if (tv_w (wv_or (tv_cmp op_isX opd_is (nomark _) (ev_n 1) ev_non) (wv_one_or (tv_val (ev_fn call_isi fnd_isi rfl T.b_isinstance PyProof.Rows.boot_isinstance (av_cons (ev_n 1) (av_cons (ev_cls rfl T.b_bool (by decide +kernel)) av_nil))))))) (bv_one (sv_ret (ev_ifE (tv_cmp op_isX opd_is (nomark _) (ev_n 1) ev_non) (ev_cmp op_isX opd_is (nomark _) (ev_n 0) ev_non) (ev_and (ev_fn call_isi fnd_isi rfl T.b_isinstance PyProof.Rows.boot_isinstance (av_cons (ev_n 0) (av_cons (ev_cls rfl T.b_bool (by decide +kernel)) av_nil))) (ev_one (ev_cmp (op_eqX (hr.units)) opd_eq (nomark _) (ev_cmp op_isX opd_is (nomark _) (ev_n 0) ev_bl) (ev_cmp op_isX opd_is (nomark _) (ev_n 1) ev_bl))))))) bv_nil)
    (bv_cons (sv_if (tv_val (ev_fn call_isi fnd_isi rfl T.b_isinstance PyProof.Rows.boot_isinstance (av_cons (ev_n 1) (av_cons (ev_cls rfl T.b_int (by decide +kernel)) av_nil)))) (bv_one (sv_ret (ev_and (ev_fn call_isi fnd_isi rfl T.b_isinstance PyProof.Rows.boot_isinstance (av_cons (ev_n 0) (av_cons (ev_cls rfl T.b_int (by decide +kernel)) av_nil))) (ev_and (ev_not (ev_fn call_isi fnd_isi rfl T.b_isinstance PyProof.Rows.boot_isinstance (av_cons (ev_n 0) (av_cons (ev_cls rfl T.b_bool (by decide +kernel)) av_nil)))) (ev_one (ev_cmp (op_eqX (hr.units)) opd_eq (nomark _) (ev_sub (ev_ty call_int1 fnd_int rfl T.b_int PyProof.Rows.boot_int (av_cons (ev_n 0) av_nil)) (ev_n 1)) ev_int)))))) bv_nil)
    (bv_cons (sv_if (tv_val (ev_fn call_isi fnd_isi rfl T.b_isinstance PyProof.Rows.boot_isinstance (av_cons (ev_n 1) (av_cons (ev_cls rfl T.b_str (by decide +kernel)) av_nil)))) (bv_one (sv_ret (ev_and (ev_fn call_isi fnd_isi rfl T.b_isinstance PyProof.Rows.boot_isinstance (av_cons (ev_n 0) (av_cons (ev_cls rfl T.b_str (by decide +kernel)) av_nil))) (ev_and (ev_cmp (op_eqX (hr.units)) opd_eq (nomark _) (ev_fn call_len fnd_len rfl T.b_len PySem.boot_len (av_cons (ev_n 0) av_nil)) (ev_fn call_len fnd_len rfl T.b_len PySem.boot_len (av_cons (ev_n 1) av_nil))) (ev_one (ev_cmp (op_eqX (hr.units)) opd_eq (nomark _) (ev_comp (own := [("k", 2)]) rfl sc__law_same.nd (blkOk_by (N := N__law_same) (sc := defScope s__law_same) (by decide +kernel)) (iv_range1 rfl T.b_range (ev_fn call_len fnd_len rfl T.b_len PySem.boot_len (av_cons (ev_n 1) av_nil))) (fun _ _ _ _ _ => (gv_n 2 sc__law_same.nd)) (fun _ _ _ _ _ => tsv_one (tv_cmp (op_neX (hr.units)) opd_ne (nomark _) (ev_slice (ev_n 0) (ov_some (ev_n 2)) (ov_some (ev_add (ev_n 2) ev_int))) (ev_item (fun _ _ => rfl) (ev_n 1) (ev_n 2)))) (fun _ _ _ _ _ => (ev_n 2))) (ev_lstE av_nil))))))) bv_nil)
    (bv_cons (sv_if (tv_val (ev_fn call_isi fnd_isi rfl T.b_isinstance PyProof.Rows.boot_isinstance (av_cons (ev_n 1) (av_cons (ev_cls rfl T.b_dict (by decide +kernel)) av_nil)))) (bv_one sv_never) bv_nil)
    (bv_cons (sv_if (tv_w (wv_or (tv_not (tv_val (ev_isi2 rfl T.b_isinstance (pe_cls rfl T.b_list (by decide +kernel)) (pe_cls rfl T.b_tuple (by decide +kernel)) (ev_n 1)))) (wv_or (tv_cmp (op_neX (hr.units)) opd_ne (nomark _) (ev_fn call_isi fnd_isi rfl T.b_isinstance PyProof.Rows.boot_isinstance (av_cons (ev_n 0) (av_cons (ev_cls rfl T.b_list (by decide +kernel)) av_nil))) (ev_fn call_isi fnd_isi rfl T.b_isinstance PyProof.Rows.boot_isinstance (av_cons (ev_n 1) (av_cons (ev_cls rfl T.b_list (by decide +kernel)) av_nil)))) (wv_one_or (tv_cmp (op_neX (hr.units)) opd_ne (nomark _) (ev_fn call_isi fnd_isi rfl T.b_isinstance PyProof.Rows.boot_isinstance (av_cons (ev_n 0) (av_cons (ev_cls rfl T.b_tuple (by decide +kernel)) av_nil))) (ev_fn call_isi fnd_isi rfl T.b_isinstance PyProof.Rows.boot_isinstance (av_cons (ev_n 1) (av_cons (ev_cls rfl T.b_tuple (by decide +kernel)) av_nil)))))))) (bv_one (sv_ret ev_bl)) bv_nil)
    (bv_one (sv_ret (ev_and (ev_cmp (op_eqX (hr.units)) opd_eq (nomark _) (ev_fn call_len fnd_len rfl T.b_len PySem.boot_len (av_cons (ev_n 0) av_nil)) (ev_fn call_len fnd_len rfl T.b_len PySem.boot_len (av_cons (ev_n 1) av_nil))) (ev_one (ev_cmp (op_eqX (hr.units)) opd_eq (nomark _) (ev_comp (own := [("k", 2)]) rfl sc__law_same.nd (blkOk_by (N := N__law_same) (sc := defScope s__law_same) (by decide +kernel)) (iv_range1 rfl T.b_range (ev_fn call_len fnd_len rfl T.b_len PySem.boot_len (av_cons (ev_n 1) av_nil))) (fun _ _ _ _ _ => (gv_n 2 sc__law_same.nd)) (fun _ _ _ _ _ => tsv_one (tv_not (tv_val (ev_call (ok__law_same T n) hr (av_cons (ev_fz (ev_item (fun _ _ => rfl) (ev_n 0) (ev_n 2))) (av_cons (ev_fz (ev_item (fun _ _ => rfl) (ev_n 1) (ev_n 2))) av_nil)))))) (fun _ _ _ _ _ => (ev_n 2))) (ev_lstE av_nil)))))))))))) (fun _ _ _ _ _ _ us hl => match us, hl with | [_, _], _ => rfl)
theorem mo__law_very : Mono (B__law_very) := (mono_seq (mono_if mono_th (mono_seq (mono_drop (mono_mu mono_up mono_up)) (mono_ret mono_thE)) mono_up) (mono_seq (mono_if mono_th (mono_seq (mono_putD mono_up mono_up mono_up) (mono_ret mono_thE)) mono_up) (mono_ret mono_thE)))
theorem mf__law_very : MonoF (F__law_very) := mono_run (mo__law_very)
theorem ok__law_very (T : Tx K mg) : DefG P w K mg base (L2.CX P w) "_law_very" s__law_very 7 ["given", "value"] [] (spN K mg (F__law_very)) :=
  defG_of T.d__law_very fun f fd F => fn_okN (N := N__law_very) (ps := ["given", "value"]) F sc__law_very (mo__law_very) fun cdv A outer s H E hr tk =>
    (bn_cons (mono_if mono_th (mono_seq (mono_drop (mono_mu mono_up mono_up)) (mono_ret mono_thE)) mono_up) (mono_seq (mono_if mono_th (mono_seq (mono_putD mono_up mono_up mono_up) (mono_ret mono_thE)) mono_up) (mono_ret mono_thE)) (sn_if mono_th (mono_seq (mono_drop (mono_mu mono_up mono_up)) (mono_ret mono_thE)) mono_up (tn_th (tv_val (ev_fn call_isi fnd_isi rfl T.b_isinstance PyProof.Rows.boot_isinstance (av_cons (ev_n 1) (av_cons (ev_cls rfl T.b_list (by decide +kernel)) av_nil))))) (bn_cons (mono_drop (mono_mu mono_up mono_up)) (mono_ret mono_thE) (sn_drop (mono_mu mono_up mono_up) (en_appendC mono_up mono_up (en_up (ev_n 1)) (an_up (av_cons (ev_fz (ev_str (l := [103, 114, 111, 119, 110]) (by decide +kernel))) av_nil))))
    (bn_one (sn_ret mono_thE (en_th (ev_and (ev_fn call_isi fnd_isi rfl T.b_isinstance PyProof.Rows.boot_isinstance (av_cons (ev_n 0) (av_cons (ev_cls rfl T.b_list (by decide +kernel)) av_nil))) (ev_and (ev_cmp (op_eqX (hr.units)) opd_eq (nomark _) (ev_fn (CallR_or call_lenD call_len) fnd_lenK rfl T.b_len PySem.boot_len (av_cons (ev_n 0) av_nil)) (ev_fn (CallR_or call_lenD call_len) fnd_lenK rfl T.b_len PySem.boot_len (av_cons (ev_n 1) av_nil))) (ev_and (ev_fn call_isi fnd_isi rfl T.b_isinstance PyProof.Rows.boot_isinstance (av_cons (ev_item (fun _ _ => rfl) (ev_n 0) (ev_neg ev_int)) (av_cons (ev_cls rfl T.b_str (by decide +kernel)) av_nil))) (ev_one (ev_cmp (op_eqX (hr.units)) opd_eq (nomark _) (ev_item (fun _ _ => rfl) (ev_n 0) (ev_neg ev_int)) (ev_str (l := [103, 114, 111, 119, 110]) (by decide +kernel))))))))) (mono_ret mono_thE))) bn_nil)
    (bn_cons (mono_if mono_th (mono_seq (mono_putD mono_up mono_up mono_up) (mono_ret mono_thE)) mono_up) (mono_ret mono_thE) (sn_if mono_th (mono_seq (mono_putD mono_up mono_up mono_up) (mono_ret mono_thE)) mono_up (tn_th (tv_val (ev_fn call_isi fnd_isi rfl T.b_isinstance PyProof.Rows.boot_isinstance (av_cons (ev_n 1) (av_cons (ev_cls rfl T.b_dict (by decide +kernel)) av_nil))))) (bn_cons (mono_putD mono_up mono_up mono_up) (mono_ret mono_thE) (sn_putD (room_u hr) mono_up mono_up mono_up (en_up (ev_n 1)) (en_up (ev_str (l := [103, 114, 111, 119, 110]) (by decide +kernel))) (en_up ev_int))
    (bn_one (sn_ret mono_thE (en_th (ev_and (ev_fn call_isi fnd_isi rfl T.b_isinstance PyProof.Rows.boot_isinstance (av_cons (ev_n 0) (av_cons (ev_cls rfl T.b_dict (by decide +kernel)) av_nil))) (ev_and (ev_cmp (op_eqX (hr.units)) opd_eq (nomark _) (ev_fn (CallR_or call_lenD call_len) fnd_lenK rfl T.b_len PySem.boot_len (av_cons (ev_n 0) av_nil)) (ev_fn (CallR_or call_lenD call_len) fnd_lenK rfl T.b_len PySem.boot_len (av_cons (ev_n 1) av_nil))) (ev_one (ev_inK (room_u hr) (ev_str (l := [103, 114, 111, 119, 110]) (by decide +kernel)) (ev_n 0))))))) (mono_ret mono_thE))) bn_nil)
    (bn_one (sn_ret mono_thE (en_th (ev_call (ok__law_same T 5) (hr.mono (by decide)) (av_cons (ev_fz (ev_n 0)) (av_cons (ev_fz (ev_n 1)) av_nil))))) (mono_ret mono_thE))))
theorem fok__law_drawn (T : Tx K mg) (f : Addr) (fd : FuncData) (F : Fun K "_law_drawn" "_law_drawn" s__law_drawn f fd) : FnOk P w K mg base CX0 2 f fd ["box", "letters", "most"] (spV K F__law_drawn) := fn_ok (N := N__law_drawn) (body := B__law_drawn) F sc__law_drawn rfl fun cdv A outer s H E hr =>
    (bv_one (sv_ret (ev_join (ev_str (l := []) (by decide +kernel)) (av_cons (ev_comp (own := [("k", 3)]) rfl sc__law_drawn.nd (blkOk_by (N := N__law_drawn) (sc := defScope s__law_drawn) (by decide +kernel)) (iv_range1 rfl T.b_range (ev_call (ok__law_take T) (hr.mono (by decide)) (av_cons (ev_n 0) (av_cons (ev_fz (ev_add (ev_n 2) ev_int)) av_nil)))) (fun _ _ _ _ _ => (gv_n 3 sc__law_drawn.nd)) (fun _ _ _ _ _ => tsv_nil) (fun _ _ _ _ _ => (ev_item (fun _ _ => rfl) (ev_str (l := [97, 98, 99, 100]) (by decide +kernel)) (ev_call (ok__law_take T) (hr.mono (by decide)) (av_cons (ev_n 0) (av_cons (ev_fz (ev_n 1)) av_nil)))))) av_nil))))
theorem ok__law_drawn (T : Tx K mg) : DefOk P w K mg base "_law_drawn" 2 ["box", "letters", "most"] F__law_drawn := def_of T.d__law_drawn (fok__law_drawn T) (fun _ _ _ _ _ _ us hl => match us, hl with | [_, _, _], _ => rfl)
theorem fok__law_power (T : Tx K mg) (f : Addr) (fd : FuncData) (F : Fun K "_law_power" "_law_power" s__law_power f fd) : FnOk P w K mg base CX0 2 f fd ["box", "letters", "most"] (spV K F__law_power) := fn_ok (N := N__law_power) (body := B__law_power) F sc__law_power rfl fun cdv A outer s H E hr =>
    (bv_cons (sv_n 3 sc__law_power.nd (ev_join (ev_str (l := []) (by decide +kernel)) (av_cons (ev_comp (own := [("k", 5)]) rfl sc__law_power.nd (blkOk_by (N := N__law_power) (sc := defScope s__law_power) (by decide +kernel)) (iv_range1 rfl T.b_range (ev_add ev_int (ev_call (ok__law_take T) (hr.mono (by decide)) (av_cons (ev_n 0) (av_cons (ev_fz ev_int) av_nil))))) (fun _ _ _ _ _ => (gv_n 5 sc__law_power.nd)) (fun _ _ _ _ _ => tsv_nil) (fun _ _ _ _ _ => (ev_item (fun _ _ => rfl) (ev_str (l := [97, 98, 99, 100]) (by decide +kernel)) (ev_call (ok__law_take T) (hr.mono (by decide)) (av_cons (ev_n 0) (av_cons (ev_fz (ev_n 1)) av_nil)))))) av_nil)))
    (bv_cons (sv_n 4 sc__law_power.nd (ev_call (ok__law_take T) (hr.mono (by decide)) (av_cons (ev_n 0) (av_cons (ev_fz (ev_add (ev_n 2) ev_int)) av_nil))))
    (bv_one (sv_ret (ev_slice (ev_mulS (ev_n 3) (ev_add (ev_fdiv (ev_n 4) (ev_fn call_len fnd_len rfl T.b_len PySem.boot_len (av_cons (ev_n 3) av_nil))) ev_int)) ov_none (ov_some (ev_n 4)))))))
theorem ok__law_power (T : Tx K mg) : DefOk P w K mg base "_law_power" 2 ["box", "letters", "most"] F__law_power := def_of T.d__law_power (fok__law_power T) (fun _ _ _ _ _ _ us hl => match us, hl with | [_, _, _], _ => rfl)
theorem fok__law_rotation_word (T : Tx K mg) (f : Addr) (fd : FuncData) (F : Fun K "_law_rotation_word" "_law_rotation_word" s__law_rotation_word f fd) : FnOk P w K mg base CX0 2 f fd ["box", "most"] (spV K F__law_rotation_word) := fn_ok (N := N__law_rotation_word) (body := B__law_rotation_word) F sc__law_rotation_word rfl fun cdv A outer s H E hr =>
    (bv_cons (sv_n 2 sc__law_rotation_word.nd (ev_add ev_int (ev_call (ok__law_take T) (hr.mono (by decide)) (av_cons (ev_n 0) (av_cons (ev_fz ev_int) av_nil)))))
    (bv_cons (sv_bind (ev_tupE (av_cons (ev_fz (ev_call (ok__law_take T) (hr.mono (by decide)) (av_cons (ev_n 0) (av_cons (ev_fz (ev_add (ev_n 2) ev_int)) av_nil)))) (av_cons (ev_fz (ev_call (ok__law_take T) (hr.mono (by decide)) (av_cons (ev_n 0) (av_cons (ev_fz (ev_n 2)) av_nil)))) (av_cons (ev_fz (ev_call (ok__law_take T) (hr.mono (by decide)) (av_cons (ev_n 0) (av_cons (ev_fz (ev_add (ev_n 1) ev_int)) av_nil)))) av_nil)))) (gv_tup rfl (NmTs.cons (gt_n 3 sc__law_rotation_word.nd) (NmTs.cons (gt_n 4 sc__law_rotation_word.nd) (NmTs.cons (gt_n 5 sc__law_rotation_word.nd) NmTs.nil)))))
    (bv_one (sv_ret (ev_join (ev_str (l := []) (by decide +kernel)) (av_cons (ev_comp (own := [("k", 6)]) rfl sc__law_rotation_word.nd (blkOk_by (N := N__law_rotation_word) (sc := defScope s__law_rotation_word) (by decide +kernel)) (iv_range1 rfl T.b_range (ev_n 5)) (fun _ _ _ _ _ => (gv_n 6 sc__law_rotation_word.nd)) (fun _ _ _ _ _ => tsv_nil) (fun _ _ _ _ _ => (ev_item (fun _ _ => rfl) (ev_str (l := [97, 98]) (by decide +kernel)) (ev_ty call_int1 fnd_int rfl T.b_int PyProof.Rows.boot_int (av_cons (ev_cmp op_gt opd_ib (nomark _) (ev_fdiv (ev_add (ev_mul (ev_n 3) (ev_add (ev_n 6) ev_int)) (ev_n 4)) (ev_n 2)) (ev_fdiv (ev_add (ev_mul (ev_n 3) (ev_n 6)) (ev_n 4)) (ev_n 2))) av_nil))))) av_nil))))))
theorem ok__law_rotation_word (T : Tx K mg) : DefOk P w K mg base "_law_rotation_word" 2 ["box", "most"] F__law_rotation_word := def_of T.d__law_rotation_word (fok__law_rotation_word T) (fun _ _ _ _ _ _ us hl => match us, hl with | [_, _], _ => rfl)
theorem fok__law_thue (T : Tx K mg) (f : Addr) (fd : FuncData) (F : Fun K "_law_thue" "_law_thue" s__law_thue f fd) : FnOk P w K mg base CX0 1 f fd ["start", "size"] (spV K F__law_thue) := fn_ok (N := N__law_thue) (body := B__law_thue) F sc__law_thue rfl fun cdv A outer s H E hr =>
    (bv_one (sv_ret (ev_join (ev_str (l := []) (by decide +kernel)) (av_cons (ev_comp (own := [("k", 2)]) rfl sc__law_thue.nd (blkOk_by (N := N__law_thue) (sc := defScope s__law_thue) (by decide +kernel)) (iv_rangeB rfl T.b_range (ev_n 0) (ev_add (ev_n 0) (ev_n 1))) (fun _ _ _ _ _ => (gv_n 2 sc__law_thue.nd)) (fun _ _ _ _ _ => tsv_nil) (fun _ _ _ _ _ => (ev_item (fun _ _ => rfl) (ev_str (l := [97, 98]) (by decide +kernel)) (ev_band (ev_fn call_len fnd_len rfl T.b_len PySem.boot_len (av_cons (ev_comp (own := [("bit", 3)]) rfl sc__law_thue.nd (blkOk_by (by kernel_rfl)) (iv_range1 rfl T.b_range ev_int) (fun _ _ _ _ _ => (gv_n 3 sc__law_thue.nd)) (fun _ _ _ _ _ => tsv_one (tv_tru (ev_band (ev_shr (ev_n 2) (ev_n 3)) ev_int))) (fun _ _ _ _ _ => ev_int)) av_nil)) ev_int)))) av_nil))))
theorem ok__law_thue (T : Tx K mg) : DefOk P w K mg base "_law_thue" 1 ["start", "size"] F__law_thue := def_of T.d__law_thue (fok__law_thue T) (fun _ _ _ _ _ _ us hl => match us, hl with | [_, _], _ => rfl)
theorem fok__law_mirror (T : Tx K mg) (f : Addr) (fd : FuncData) (F : Fun K "_law_mirror" "_law_mirror" s__law_mirror f fd) : FnOk P w K mg base CX0 3 f fd ["box", "letters", "most"] (spV K F__law_mirror) := fn_ok (N := N__law_mirror) (body := B__law_mirror) F sc__law_mirror rfl fun cdv A outer s H E hr =>
    (bv_cons (sv_n 3 sc__law_mirror.nd (ev_call (ok__law_drawn T) (hr.mono (by decide)) (av_cons (ev_n 0) (av_cons (ev_fz (ev_n 1)) (av_cons (ev_fz (ev_fdiv (ev_n 2) ev_int)) av_nil)))))
    (bv_one (sv_ret (ev_ifE (tv_cmp (op_eqX (hr.units)) opd_eq (nomark _) (ev_call (ok__law_take T) (hr.mono (by decide)) (av_cons (ev_n 0) (av_cons (ev_fz ev_int) av_nil))) ev_int) (ev_add (ev_n 3) (ev_revS (ev_n 3))) (ev_add (ev_n 3) (ev_slice (ev_revS (ev_n 3)) (ov_some ev_int) ov_none))))))
theorem ok__law_mirror (T : Tx K mg) : DefOk P w K mg base "_law_mirror" 3 ["box", "letters", "most"] F__law_mirror := def_of T.d__law_mirror (fok__law_mirror T) (fun _ _ _ _ _ _ us hl => match us, hl with | [_, _, _], _ => rfl)
theorem fok__law_near (T : Tx K mg) (f : Addr) (fd : FuncData) (F : Fun K "_law_near" "_law_near" s__law_near f fd) : FnOk P w K mg base CX0 2 f fd ["box", "word", "letters"] (spV K F__law_near) := fn_ok (N := N__law_near) (body := B__law_near) F sc__law_near rfl fun cdv A outer s H E hr =>
    (bv_cons (sv_par3 (fs := _) (i := 3) (j := 4) (l := 5) rfl sc__law_near.nd rfl rfl rfl (by decide) (by decide) (by decide) rfl rfl rfl (ao_cons (ev_call (ok__law_take T) (hr.mono (by decide)) (av_cons (ev_n 0) (av_cons (ev_fz (ev_add (ev_fn call_len fnd_len rfl T.b_len PySem.boot_len (av_cons (ev_n 1) av_nil)) ev_int)) av_nil))) (ao_cons (ev_call (ok__law_take T) (hr.mono (by decide)) (av_cons (ev_n 0) (av_cons (ev_fz ev_int) av_nil))) (ao_cons (ev_item (fun _ _ => rfl) (ev_str (l := [97, 98, 99, 100]) (by decide +kernel)) (ev_call (ok__law_take T) (hr.mono (by decide)) (av_cons (ev_n 0) (av_cons (ev_fz (ev_n 2)) av_nil)))) ao_nil))) rfl)
    (bv_cons (sv_if (tv_cmp (op_eqX (hr.units)) opd_eq (nomark _) (ev_n 4) ev_int) (bv_one (sv_ret (ev_add (ev_add (ev_slice (ev_n 1) ov_none (ov_some (ev_n 3))) (ev_n 5)) (ev_slice (ev_n 1) (ov_some (ev_add (ev_n 3) ev_int)) ov_none)))) bv_nil)
    (bv_cons (sv_if (tv_w (wv_or (tv_cmp (op_eqX (hr.units)) opd_eq (nomark _) (ev_n 4) ev_int) (wv_one_or (tv_cmp (op_eqX (hr.units)) opd_eq (nomark _) (ev_n 1) (ev_str (l := []) (by decide +kernel)))))) (bv_one (sv_ret (ev_add (ev_add (ev_slice (ev_n 1) ov_none (ov_some (ev_n 3))) (ev_n 5)) (ev_slice (ev_n 1) (ov_some (ev_n 3)) ov_none)))) bv_nil)
    (bv_cons (sv_if (tv_cmp (op_eqX (hr.units)) opd_eq (nomark _) (ev_n 4) ev_int) (bv_one (sv_ret (ev_add (ev_slice (ev_n 1) ov_none (ov_some (ev_n 3))) (ev_slice (ev_n 1) (ov_some (ev_add (ev_n 3) ev_int)) ov_none)))) bv_nil)
    (bv_one (sv_ret (ev_ifE (tv_cmp (op_eqX (hr.units)) opd_eq (nomark _) (ev_n 4) ev_int) (ev_add (ev_add (ev_add (ev_slice (ev_n 1) ov_none (ov_some (ev_n 3))) (ev_slice (ev_n 1) (ov_some (ev_add (ev_n 3) ev_int)) (ov_some (ev_add (ev_n 3) ev_int)))) (ev_slice (ev_n 1) (ov_some (ev_n 3)) (ov_some (ev_add (ev_n 3) ev_int)))) (ev_slice (ev_n 1) (ov_some (ev_add (ev_n 3) ev_int)) ov_none)) (ev_n 1))))))))
theorem ok__law_near (T : Tx K mg) : DefOk P w K mg base "_law_near" 2 ["box", "word", "letters"] F__law_near := def_of T.d__law_near (fok__law_near T) (fun _ _ _ _ _ _ us hl => match us, hl with | [_, _, _], _ => rfl)
theorem fok__law_word (T : Tx K mg) (f : Addr) (fd : FuncData) (F : Fun K "_law_word" "_law_word" s__law_word f fd) : FnOk P w K mg base CX0 4 f fd ["box", "letters", "most"] (spV K F__law_word) := fn_ok (N := N__law_word) (body := B__law_word) F sc__law_word rfl fun cdv A outer s H E hr =>
    (bv_cons (sv_n 3 sc__law_word.nd (ev_call (ok__law_take T) (hr.mono (by decide)) (av_cons (ev_n 0) (av_cons (ev_fz ev_int) av_nil))))
    (bv_cons (sv_if (tv_cmp op_lt opd_ib (nomark _) (ev_n 3) ev_int) (bv_one (sv_ret (ev_call (ok__law_drawn T) (hr.mono (by decide)) (av_cons (ev_n 0) (av_cons (ev_fz (ev_n 1)) (av_cons (ev_fz (ev_n 2)) av_nil)))))) bv_nil)
    (bv_cons (sv_if (tv_cmp op_lt opd_ib (nomark _) (ev_n 3) ev_int) (bv_one (sv_ret (ev_call (ok__law_power T) (hr.mono (by decide)) (av_cons (ev_n 0) (av_cons (ev_fz (ev_n 1)) (av_cons (ev_fz (ev_n 2)) av_nil)))))) bv_nil)
    (bv_cons (sv_if (tv_cmp (op_eqX (hr.units)) opd_eq (nomark _) (ev_n 3) ev_int) (bv_one (sv_ret (ev_ifE (tv_cmp op_gt opd_ib (nomark _) (ev_n 1) ev_int) (ev_call (ok__law_rotation_word T) (hr.mono (by decide)) (av_cons (ev_n 0) (av_cons (ev_fz (ev_n 2)) av_nil))) (ev_call (ok__law_power T) (hr.mono (by decide)) (av_cons (ev_n 0) (av_cons (ev_fz ev_int) (av_cons (ev_fz (ev_n 2)) av_nil))))))) bv_nil)
    (bv_cons (sv_if (tv_cmp (op_eqX (hr.units)) opd_eq (nomark _) (ev_n 3) ev_int) (bv_one (sv_ret (ev_ifE (tv_cmp op_gt opd_ib (nomark _) (ev_n 1) ev_int) (ev_call (ok__law_thue T) (hr.mono (by decide)) (av_cons (ev_fz (ev_call (ok__law_take T) (hr.mono (by decide)) (av_cons (ev_n 0) (av_cons (ev_fz ev_int) av_nil)))) (av_cons (ev_fz (ev_call (ok__law_take T) (hr.mono (by decide)) (av_cons (ev_n 0) (av_cons (ev_fz (ev_add (ev_n 2) ev_int)) av_nil)))) av_nil))) (ev_str (l := []) (by decide +kernel))))) bv_nil)
    (bv_cons (sv_if (tv_cmp (op_eqX (hr.units)) opd_eq (nomark _) (ev_n 3) ev_int) (bv_one (sv_ret (ev_call (ok__law_mirror T) (hr.mono (by decide)) (av_cons (ev_n 0) (av_cons (ev_fz (ev_n 1)) (av_cons (ev_fz (ev_n 2)) av_nil)))))) bv_nil)
    (bv_cons (sv_if (tv_cmp (op_eqX (hr.units)) opd_eq (nomark _) (ev_n 3) ev_int) (bv_one (sv_ret (ev_slice (ev_call (ok__law_near T) (hr.mono (by decide)) (av_cons (ev_n 0) (av_cons (ev_fz (ev_call (ok__law_power T) (hr.mono (by decide)) (av_cons (ev_n 0) (av_cons (ev_fz (ev_n 1)) (av_cons (ev_fz (ev_sub (ev_n 2) ev_int)) av_nil))))) (av_cons (ev_fz (ev_n 1)) av_nil)))) ov_none (ov_some (ev_n 2))))) bv_nil)
    (bv_cons (sv_n 4 sc__law_word.nd (ev_lstE (av_cons (ev_fz (ev_str (l := []) (by decide +kernel))) (av_cons (ev_fz (ev_str (l := [97]) (by decide +kernel))) (av_cons (ev_fz (ev_str (l := [97, 97]) (by decide +kernel))) (av_cons (ev_fz (ev_str (l := [97, 97, 97]) (by decide +kernel))) (av_cons (ev_fz (ev_str (l := [98]) (by decide +kernel))) (av_cons (ev_fz (ev_str (l := [97, 98]) (by decide +kernel))) (av_cons (ev_fz (ev_str (l := [98, 97]) (by decide +kernel))) (av_cons (ev_fz (ev_str (l := [97, 97, 98]) (by decide +kernel))) (av_cons (ev_fz (ev_str (l := [97, 98, 97, 97, 98, 97, 98, 97]) (by decide +kernel))) av_nil)))))))))))
    (bv_one (sv_ret (ev_slice (ev_item (fun _ _ => rfl) (ev_n 4) (ev_call (ok__law_take T) (hr.mono (by decide)) (av_cons (ev_n 0) (av_cons (ev_fz (ev_ifE (tv_cmp (op_eqX (hr.units)) opd_eq (nomark _) (ev_n 1) ev_int) ev_int ev_int)) av_nil)))) ov_none (ov_some (ev_n 2)))))))))))))
theorem ok__law_word (T : Tx K mg) : DefOk P w K mg base "_law_word" 4 ["box", "letters", "most"] F__law_word := def_of T.d__law_word (fok__law_word T) (fun _ _ _ _ _ _ us hl => match us, hl with | [_, _, _], _ => rfl)
theorem mo__law_bad_word : Mono (B__law_bad_word) := (mono_ret (mono_op (mono_lst (mono_cons mono_up (mono_cons mono_up (mono_cons mono_up (mono_cons mono_up (mono_cons (mono_cell mono_up) (mono_cons mono_up (mono_cons mono_up (mono_cons mono_up (mono_cons mono_dict0 (mono_cons mono_up (mono_cons mono_up (mono_cons mono_up mono_up))))))))))))) mono_up))
theorem mf__law_bad_word : MonoF (F__law_bad_word) := mono_run (mo__law_bad_word)
theorem ok__law_bad_word (T : Tx K mg) : DefG P w K mg base (L2.CX P w) "_law_bad_word" s__law_bad_word 2 ["box"] [] (spN K mg (F__law_bad_word)) :=
  defG_of T.d__law_bad_word fun f fd F => fn_okN (N := N__law_bad_word) (ps := ["box"]) F sc__law_bad_word (mo__law_bad_word) fun cdv A outer s H E hr tk =>
    (bn_one (sn_ret (mono_op (mono_lst (mono_cons mono_up (mono_cons mono_up (mono_cons mono_up (mono_cons mono_up (mono_cons (mono_cell mono_up) (mono_cons mono_up (mono_cons mono_up (mono_cons mono_up (mono_cons mono_dict0 (mono_cons mono_up (mono_cons mono_up (mono_cons mono_up mono_up))))))))))))) mono_up) (en_item (mono_lst (mono_cons mono_up (mono_cons mono_up (mono_cons mono_up (mono_cons mono_up (mono_cons (mono_cell mono_up) (mono_cons mono_up (mono_cons mono_up (mono_cons mono_up (mono_cons mono_dict0 (mono_cons mono_up (mono_cons mono_up (mono_cons mono_up mono_up))))))))))))) mono_up (fun _ _ => rfl) (en_lst (mono_cons mono_up (mono_cons mono_up (mono_cons mono_up (mono_cons mono_up (mono_cons (mono_cell mono_up) (mono_cons mono_up (mono_cons mono_up (mono_cons mono_up (mono_cons mono_dict0 (mono_cons mono_up (mono_cons mono_up (mono_cons mono_up mono_up)))))))))))) (an_cons mono_up (mono_cons mono_up (mono_cons mono_up (mono_cons mono_up (mono_cons (mono_cell mono_up) (mono_cons mono_up (mono_cons mono_up (mono_cons mono_up (mono_cons mono_dict0 (mono_cons mono_up (mono_cons mono_up (mono_cons mono_up mono_up))))))))))) (en_up ev_non) (an_cons mono_up (mono_cons mono_up (mono_cons mono_up (mono_cons (mono_cell mono_up) (mono_cons mono_up (mono_cons mono_up (mono_cons mono_up (mono_cons mono_dict0 (mono_cons mono_up (mono_cons mono_up (mono_cons mono_up mono_up)))))))))) (en_up ev_int) (an_cons mono_up (mono_cons mono_up (mono_cons (mono_cell mono_up) (mono_cons mono_up (mono_cons mono_up (mono_cons mono_up (mono_cons mono_dict0 (mono_cons mono_up (mono_cons mono_up (mono_cons mono_up mono_up))))))))) (en_up (ev_str (l := [97, 98, 101]) (by decide +kernel))) (an_cons mono_up (mono_cons (mono_cell mono_up) (mono_cons mono_up (mono_cons mono_up (mono_cons mono_up (mono_cons mono_dict0 (mono_cons mono_up (mono_cons mono_up (mono_cons mono_up mono_up)))))))) (en_up (ev_str (l := [65]) (by decide +kernel))) (an_cons (mono_cell mono_up) (mono_cons mono_up (mono_cons mono_up (mono_cons mono_up (mono_cons mono_dict0 (mono_cons mono_up (mono_cons mono_up (mono_cons mono_up mono_up))))))) (en_cell mono_up (en_up (ev_lstE (av_cons (ev_fz (ev_str (l := [97]) (by decide +kernel))) av_nil)))) (an_cons mono_up (mono_cons mono_up (mono_cons mono_up (mono_cons mono_dict0 (mono_cons mono_up (mono_cons mono_up (mono_cons mono_up mono_up)))))) (en_up (ev_tupE (av_cons (ev_fz (ev_str (l := [97]) (by decide +kernel))) (av_cons (ev_fz (ev_str (l := [98]) (by decide +kernel))) av_nil)))) (an_cons mono_up (mono_cons mono_up (mono_cons mono_dict0 (mono_cons mono_up (mono_cons mono_up (mono_cons mono_up mono_up))))) (en_up (ev_mulS (ev_str (l := [97]) (by decide +kernel)) ev_int)) (an_cons mono_up (mono_cons mono_dict0 (mono_cons mono_up (mono_cons mono_up (mono_cons mono_up mono_up)))) (en_up ev_bl) (an_cons mono_dict0 (mono_cons mono_up (mono_cons mono_up (mono_cons mono_up mono_up))) en_dict0 (an_cons mono_up (mono_cons mono_up (mono_cons mono_up mono_up)) (en_up (ev_str (l := [97, 32, 98]) (by decide +kernel))) (an_cons mono_up (mono_cons mono_up mono_up) (en_up (ev_str (l := [97, 98, 10]) (by decide +kernel))) (an_cons mono_up mono_up (en_up (ev_neg ev_int)) an_nil))))))))))))) (en_up (ev_call (ok__law_take T) (hr.mono (by decide)) (av_cons (ev_n 0) (av_cons (ev_fz ev_int) av_nil)))))) (mono_ret (mono_op (mono_lst (mono_cons mono_up (mono_cons mono_up (mono_cons mono_up (mono_cons mono_up (mono_cons (mono_cell mono_up) (mono_cons mono_up (mono_cons mono_up (mono_cons mono_up (mono_cons mono_dict0 (mono_cons mono_up (mono_cons mono_up (mono_cons mono_up mono_up))))))))))))) mono_up)))
theorem bg_periods_0_word : BindG "periods" s_periods ["word"] 0 ["word"] [.inl 0] 0 := .inl ⟨rfl, fun _ _ _ _ _ _ us ws h1 h2 => match us, h1, ws, h2 with | [], _, [_], _ => rfl⟩
theorem bg_periods_1_ : BindG "periods" s_periods ["word"] 1 [] [.inl 0] 0 := .inl ⟨rfl, fun _ _ _ _ _ _ us ws h1 h2 => match us, h1, ws, h2 with | [_], _, [], _ => rfl⟩
theorem bg_least_period_0_word : BindG "least_period" s_least_period ["word"] 0 ["word"] [.inl 0] 0 := .inl ⟨rfl, fun _ _ _ _ _ _ us ws h1 h2 => match us, h1, ws, h2 with | [], _, [_], _ => rfl⟩
theorem bg_least_period_1_ : BindG "least_period" s_least_period ["word"] 1 [] [.inl 0] 0 := .inl ⟨rfl, fun _ _ _ _ _ _ us ws h1 h2 => match us, h1, ws, h2 with | [_], _, [], _ => rfl⟩
theorem bg_borders_0_word : BindG "borders" s_borders ["word"] 0 ["word"] [.inl 0] 0 := .inl ⟨rfl, fun _ _ _ _ _ _ us ws h1 h2 => match us, h1, ws, h2 with | [], _, [_], _ => rfl⟩
theorem bg_borders_1_ : BindG "borders" s_borders ["word"] 1 [] [.inl 0] 0 := .inl ⟨rfl, fun _ _ _ _ _ _ us ws h1 h2 => match us, h1, ws, h2 with | [_], _, [], _ => rfl⟩
theorem bg_border_table_0_word : BindG "border_table" s_border_table ["word"] 0 ["word"] [.inl 0] 0 := .inl ⟨rfl, fun _ _ _ _ _ _ us ws h1 h2 => match us, h1, ws, h2 with | [], _, [_], _ => rfl⟩
theorem bg_border_table_1_ : BindG "border_table" s_border_table ["word"] 1 [] [.inl 0] 0 := .inl ⟨rfl, fun _ _ _ _ _ _ us ws h1 h2 => match us, h1, ws, h2 with | [_], _, [], _ => rfl⟩
theorem bg_prefix_table_0_word : BindG "prefix_table" s_prefix_table ["word"] 0 ["word"] [.inl 0] 0 := .inl ⟨rfl, fun _ _ _ _ _ _ us ws h1 h2 => match us, h1, ws, h2 with | [], _, [_], _ => rfl⟩
theorem bg_prefix_table_1_ : BindG "prefix_table" s_prefix_table ["word"] 1 [] [.inl 0] 0 := .inl ⟨rfl, fun _ _ _ _ _ _ us ws h1 h2 => match us, h1, ws, h2 with | [_], _, [], _ => rfl⟩
theorem bg_exponent_0_word : BindG "exponent" s_exponent ["word"] 0 ["word"] [.inl 0] 0 := .inl ⟨rfl, fun _ _ _ _ _ _ us ws h1 h2 => match us, h1, ws, h2 with | [], _, [_], _ => rfl⟩
theorem bg_exponent_1_ : BindG "exponent" s_exponent ["word"] 1 [] [.inl 0] 0 := .inl ⟨rfl, fun _ _ _ _ _ _ us ws h1 h2 => match us, h1, ws, h2 with | [_], _, [], _ => rfl⟩
theorem mo__law_ask : Mono (B__law_ask) := (mono_try (mono_seq (mono_if mono_th (mono_ret (mono_lst (mono_cons mono_up (mono_cons (mono_cell (mono_ifE mono_th (mono_call (mf_periods) (mono_pick (mono_app mono_up (mono_cons mono_up mono_up)))) (mono_call (mf_periods) (mono_pick (mono_app mono_up mono_up))))) mono_up)))) mono_up) (mono_seq (mono_if mono_th (mono_ret (mono_lst (mono_cons mono_up (mono_cons (mono_cell (mono_ifE mono_th (mono_call (mf_least_period) (mono_pick (mono_app mono_up (mono_cons mono_up mono_up)))) (mono_call (mf_least_period) (mono_pick (mono_app mono_up mono_up))))) mono_up)))) mono_up) (mono_seq (mono_if mono_th (mono_ret (mono_lst (mono_cons mono_up (mono_cons (mono_cell (mono_ifE mono_th (mono_call (mf_borders) (mono_pick (mono_app mono_up (mono_cons mono_up mono_up)))) (mono_call (mf_borders) (mono_pick (mono_app mono_up mono_up))))) mono_up)))) mono_up) (mono_seq (mono_if mono_th (mono_ret (mono_lst (mono_cons mono_up (mono_cons (mono_cell (mono_ifE mono_th (mono_call (mf_border_table) (mono_pick (mono_app mono_up (mono_cons mono_up mono_up)))) (mono_call (mf_border_table) (mono_pick (mono_app mono_up mono_up))))) mono_up)))) mono_up) (mono_seq (mono_if mono_th (mono_ret (mono_lst (mono_cons mono_up (mono_cons (mono_cell (mono_ifE mono_th (mono_call (mf_prefix_table) (mono_pick (mono_app mono_up (mono_cons mono_up mono_up)))) (mono_call (mf_prefix_table) (mono_pick (mono_app mono_up mono_up))))) mono_up)))) mono_up) (mono_ret (mono_lst (mono_cons mono_up (mono_cons (mono_cell (mono_ifE mono_th (mono_call (mf_exponent) (mono_pick (mono_app mono_up (mono_cons mono_up mono_up)))) (mono_call (mf_exponent) (mono_pick (mono_app mono_up mono_up))))) mono_up))))))))))
theorem mf__law_ask : MonoF (F__law_ask) := mono_run (mo__law_ask)
theorem ok__law_ask (T : Tx K mg) : DefG P w K mg base (L2.CX P w) "_law_ask" s__law_ask 5 ["word", "value", "named"] [] (spN K mg (F__law_ask)) :=
  defG_of T.d__law_ask fun f fd F => fn_okN (N := N__law_ask) (ps := ["word", "value", "named"]) F sc__law_ask (mo__law_ask) fun cdv A outer s H E hr tk =>
    (bn_one (sn_try T.ect sc__law_ask.nd rfl rfl tk (mono_seq (mono_if mono_th (mono_ret (mono_lst (mono_cons mono_up (mono_cons (mono_cell (mono_ifE mono_th (mono_call (mf_periods) (mono_pick (mono_app mono_up (mono_cons mono_up mono_up)))) (mono_call (mf_periods) (mono_pick (mono_app mono_up mono_up))))) mono_up)))) mono_up) (mono_seq (mono_if mono_th (mono_ret (mono_lst (mono_cons mono_up (mono_cons (mono_cell (mono_ifE mono_th (mono_call (mf_least_period) (mono_pick (mono_app mono_up (mono_cons mono_up mono_up)))) (mono_call (mf_least_period) (mono_pick (mono_app mono_up mono_up))))) mono_up)))) mono_up) (mono_seq (mono_if mono_th (mono_ret (mono_lst (mono_cons mono_up (mono_cons (mono_cell (mono_ifE mono_th (mono_call (mf_borders) (mono_pick (mono_app mono_up (mono_cons mono_up mono_up)))) (mono_call (mf_borders) (mono_pick (mono_app mono_up mono_up))))) mono_up)))) mono_up) (mono_seq (mono_if mono_th (mono_ret (mono_lst (mono_cons mono_up (mono_cons (mono_cell (mono_ifE mono_th (mono_call (mf_border_table) (mono_pick (mono_app mono_up (mono_cons mono_up mono_up)))) (mono_call (mf_border_table) (mono_pick (mono_app mono_up mono_up))))) mono_up)))) mono_up) (mono_seq (mono_if mono_th (mono_ret (mono_lst (mono_cons mono_up (mono_cons (mono_cell (mono_ifE mono_th (mono_call (mf_prefix_table) (mono_pick (mono_app mono_up (mono_cons mono_up mono_up)))) (mono_call (mf_prefix_table) (mono_pick (mono_app mono_up mono_up))))) mono_up)))) mono_up) (mono_ret (mono_lst (mono_cons mono_up (mono_cons (mono_cell (mono_ifE mono_th (mono_call (mf_exponent) (mono_pick (mono_app mono_up (mono_cons mono_up mono_up)))) (mono_call (mf_exponent) (mono_pick (mono_app mono_up mono_up))))) mono_up))))))))) (fun W1 pn1 xe1 tk' => (bn_cons (mono_if mono_th (mono_ret (mono_lst (mono_cons mono_up (mono_cons (mono_cell (mono_ifE mono_th (mono_call (mf_periods) (mono_pick (mono_app mono_up (mono_cons mono_up mono_up)))) (mono_call (mf_periods) (mono_pick (mono_app mono_up mono_up))))) mono_up)))) mono_up) (mono_seq (mono_if mono_th (mono_ret (mono_lst (mono_cons mono_up (mono_cons (mono_cell (mono_ifE mono_th (mono_call (mf_least_period) (mono_pick (mono_app mono_up (mono_cons mono_up mono_up)))) (mono_call (mf_least_period) (mono_pick (mono_app mono_up mono_up))))) mono_up)))) mono_up) (mono_seq (mono_if mono_th (mono_ret (mono_lst (mono_cons mono_up (mono_cons (mono_cell (mono_ifE mono_th (mono_call (mf_borders) (mono_pick (mono_app mono_up (mono_cons mono_up mono_up)))) (mono_call (mf_borders) (mono_pick (mono_app mono_up mono_up))))) mono_up)))) mono_up) (mono_seq (mono_if mono_th (mono_ret (mono_lst (mono_cons mono_up (mono_cons (mono_cell (mono_ifE mono_th (mono_call (mf_border_table) (mono_pick (mono_app mono_up (mono_cons mono_up mono_up)))) (mono_call (mf_border_table) (mono_pick (mono_app mono_up mono_up))))) mono_up)))) mono_up) (mono_seq (mono_if mono_th (mono_ret (mono_lst (mono_cons mono_up (mono_cons (mono_cell (mono_ifE mono_th (mono_call (mf_prefix_table) (mono_pick (mono_app mono_up (mono_cons mono_up mono_up)))) (mono_call (mf_prefix_table) (mono_pick (mono_app mono_up mono_up))))) mono_up)))) mono_up) (mono_ret (mono_lst (mono_cons mono_up (mono_cons (mono_cell (mono_ifE mono_th (mono_call (mf_exponent) (mono_pick (mono_app mono_up (mono_cons mono_up mono_up)))) (mono_call (mf_exponent) (mono_pick (mono_app mono_up mono_up))))) mono_up)))))))) (sn_if mono_th (mono_ret (mono_lst (mono_cons mono_up (mono_cons (mono_cell (mono_ifE mono_th (mono_call (mf_periods) (mono_pick (mono_app mono_up (mono_cons mono_up mono_up)))) (mono_call (mf_periods) (mono_pick (mono_app mono_up mono_up))))) mono_up)))) mono_up (tn_th (tv_cmp (op_eqX (hr.units)) opd_eq (nomark _) (ev_n 0) (ev_str (l := [112, 101, 114, 105, 111, 100, 115]) (by decide +kernel)))) (bn_one (sn_ret (mono_lst (mono_cons mono_up (mono_cons (mono_cell (mono_ifE mono_th (mono_call (mf_periods) (mono_pick (mono_app mono_up (mono_cons mono_up mono_up)))) (mono_call (mf_periods) (mono_pick (mono_app mono_up mono_up))))) mono_up))) (en_lst (mono_cons mono_up (mono_cons (mono_cell (mono_ifE mono_th (mono_call (mf_periods) (mono_pick (mono_app mono_up (mono_cons mono_up mono_up)))) (mono_call (mf_periods) (mono_pick (mono_app mono_up mono_up))))) mono_up)) (an_cons mono_up (mono_cons (mono_cell (mono_ifE mono_th (mono_call (mf_periods) (mono_pick (mono_app mono_up (mono_cons mono_up mono_up)))) (mono_call (mf_periods) (mono_pick (mono_app mono_up mono_up))))) mono_up) (en_up (ev_str (l := [116, 111, 108, 100]) (by decide +kernel))) (an_cons (mono_cell (mono_ifE mono_th (mono_call (mf_periods) (mono_pick (mono_app mono_up (mono_cons mono_up mono_up)))) (mono_call (mf_periods) (mono_pick (mono_app mono_up mono_up))))) mono_up (en_cell (mono_ifE mono_th (mono_call (mf_periods) (mono_pick (mono_app mono_up (mono_cons mono_up mono_up)))) (mono_call (mf_periods) (mono_pick (mono_app mono_up mono_up)))) (en_ifE mono_th (mono_call (mf_periods) (mono_pick (mono_app mono_up (mono_cons mono_up mono_up)))) (mono_call (mf_periods) (mono_pick (mono_app mono_up mono_up))) (tn_th (tv_val (ev_n 2))) (en_callG0 (ok_periods T) bg_periods_0_word (lits_ok rfl) (mf_periods) (mono_cons mono_up mono_up) tk' (hr.mono (by decide)) (kn_cons mono_up mono_up (en_up (ev_fz (ev_n 1))) kn_nil)) (en_callG (ok_periods T) bg_periods_1_ (lits_ok rfl) (mf_periods) mono_up mono_up tk' (hr.mono (by decide)) (an_up (av_cons (ev_fz (ev_n 1)) av_nil)) kn_nil))) an_nil)))) (mono_ret (mono_lst (mono_cons mono_up (mono_cons (mono_cell (mono_ifE mono_th (mono_call (mf_periods) (mono_pick (mono_app mono_up (mono_cons mono_up mono_up)))) (mono_call (mf_periods) (mono_pick (mono_app mono_up mono_up))))) mono_up))))) bn_nil)
    (bn_cons (mono_if mono_th (mono_ret (mono_lst (mono_cons mono_up (mono_cons (mono_cell (mono_ifE mono_th (mono_call (mf_least_period) (mono_pick (mono_app mono_up (mono_cons mono_up mono_up)))) (mono_call (mf_least_period) (mono_pick (mono_app mono_up mono_up))))) mono_up)))) mono_up) (mono_seq (mono_if mono_th (mono_ret (mono_lst (mono_cons mono_up (mono_cons (mono_cell (mono_ifE mono_th (mono_call (mf_borders) (mono_pick (mono_app mono_up (mono_cons mono_up mono_up)))) (mono_call (mf_borders) (mono_pick (mono_app mono_up mono_up))))) mono_up)))) mono_up) (mono_seq (mono_if mono_th (mono_ret (mono_lst (mono_cons mono_up (mono_cons (mono_cell (mono_ifE mono_th (mono_call (mf_border_table) (mono_pick (mono_app mono_up (mono_cons mono_up mono_up)))) (mono_call (mf_border_table) (mono_pick (mono_app mono_up mono_up))))) mono_up)))) mono_up) (mono_seq (mono_if mono_th (mono_ret (mono_lst (mono_cons mono_up (mono_cons (mono_cell (mono_ifE mono_th (mono_call (mf_prefix_table) (mono_pick (mono_app mono_up (mono_cons mono_up mono_up)))) (mono_call (mf_prefix_table) (mono_pick (mono_app mono_up mono_up))))) mono_up)))) mono_up) (mono_ret (mono_lst (mono_cons mono_up (mono_cons (mono_cell (mono_ifE mono_th (mono_call (mf_exponent) (mono_pick (mono_app mono_up (mono_cons mono_up mono_up)))) (mono_call (mf_exponent) (mono_pick (mono_app mono_up mono_up))))) mono_up))))))) (sn_if mono_th (mono_ret (mono_lst (mono_cons mono_up (mono_cons (mono_cell (mono_ifE mono_th (mono_call (mf_least_period) (mono_pick (mono_app mono_up (mono_cons mono_up mono_up)))) (mono_call (mf_least_period) (mono_pick (mono_app mono_up mono_up))))) mono_up)))) mono_up (tn_th (tv_cmp (op_eqX (hr.units)) opd_eq (nomark _) (ev_n 0) (ev_str (l := [108, 101, 97, 115, 116]) (by decide +kernel)))) (bn_one (sn_ret (mono_lst (mono_cons mono_up (mono_cons (mono_cell (mono_ifE mono_th (mono_call (mf_least_period) (mono_pick (mono_app mono_up (mono_cons mono_up mono_up)))) (mono_call (mf_least_period) (mono_pick (mono_app mono_up mono_up))))) mono_up))) (en_lst (mono_cons mono_up (mono_cons (mono_cell (mono_ifE mono_th (mono_call (mf_least_period) (mono_pick (mono_app mono_up (mono_cons mono_up mono_up)))) (mono_call (mf_least_period) (mono_pick (mono_app mono_up mono_up))))) mono_up)) (an_cons mono_up (mono_cons (mono_cell (mono_ifE mono_th (mono_call (mf_least_period) (mono_pick (mono_app mono_up (mono_cons mono_up mono_up)))) (mono_call (mf_least_period) (mono_pick (mono_app mono_up mono_up))))) mono_up) (en_up (ev_str (l := [116, 111, 108, 100]) (by decide +kernel))) (an_cons (mono_cell (mono_ifE mono_th (mono_call (mf_least_period) (mono_pick (mono_app mono_up (mono_cons mono_up mono_up)))) (mono_call (mf_least_period) (mono_pick (mono_app mono_up mono_up))))) mono_up (en_cell (mono_ifE mono_th (mono_call (mf_least_period) (mono_pick (mono_app mono_up (mono_cons mono_up mono_up)))) (mono_call (mf_least_period) (mono_pick (mono_app mono_up mono_up)))) (en_ifE mono_th (mono_call (mf_least_period) (mono_pick (mono_app mono_up (mono_cons mono_up mono_up)))) (mono_call (mf_least_period) (mono_pick (mono_app mono_up mono_up))) (tn_th (tv_val (ev_n 2))) (en_callG0 (ok_least_period T) bg_least_period_0_word (lits_ok rfl) (mf_least_period) (mono_cons mono_up mono_up) tk' (hr.mono (by decide)) (kn_cons mono_up mono_up (en_up (ev_fz (ev_n 1))) kn_nil)) (en_callG (ok_least_period T) bg_least_period_1_ (lits_ok rfl) (mf_least_period) mono_up mono_up tk' (hr.mono (by decide)) (an_up (av_cons (ev_fz (ev_n 1)) av_nil)) kn_nil))) an_nil)))) (mono_ret (mono_lst (mono_cons mono_up (mono_cons (mono_cell (mono_ifE mono_th (mono_call (mf_least_period) (mono_pick (mono_app mono_up (mono_cons mono_up mono_up)))) (mono_call (mf_least_period) (mono_pick (mono_app mono_up mono_up))))) mono_up))))) bn_nil)
    (bn_cons (mono_if mono_th (mono_ret (mono_lst (mono_cons mono_up (mono_cons (mono_cell (mono_ifE mono_th (mono_call (mf_borders) (mono_pick (mono_app mono_up (mono_cons mono_up mono_up)))) (mono_call (mf_borders) (mono_pick (mono_app mono_up mono_up))))) mono_up)))) mono_up) (mono_seq (mono_if mono_th (mono_ret (mono_lst (mono_cons mono_up (mono_cons (mono_cell (mono_ifE mono_th (mono_call (mf_border_table) (mono_pick (mono_app mono_up (mono_cons mono_up mono_up)))) (mono_call (mf_border_table) (mono_pick (mono_app mono_up mono_up))))) mono_up)))) mono_up) (mono_seq (mono_if mono_th (mono_ret (mono_lst (mono_cons mono_up (mono_cons (mono_cell (mono_ifE mono_th (mono_call (mf_prefix_table) (mono_pick (mono_app mono_up (mono_cons mono_up mono_up)))) (mono_call (mf_prefix_table) (mono_pick (mono_app mono_up mono_up))))) mono_up)))) mono_up) (mono_ret (mono_lst (mono_cons mono_up (mono_cons (mono_cell (mono_ifE mono_th (mono_call (mf_exponent) (mono_pick (mono_app mono_up (mono_cons mono_up mono_up)))) (mono_call (mf_exponent) (mono_pick (mono_app mono_up mono_up))))) mono_up)))))) (sn_if mono_th (mono_ret (mono_lst (mono_cons mono_up (mono_cons (mono_cell (mono_ifE mono_th (mono_call (mf_borders) (mono_pick (mono_app mono_up (mono_cons mono_up mono_up)))) (mono_call (mf_borders) (mono_pick (mono_app mono_up mono_up))))) mono_up)))) mono_up (tn_th (tv_cmp (op_eqX (hr.units)) opd_eq (nomark _) (ev_n 0) (ev_str (l := [98, 111, 114, 100, 101, 114, 115]) (by decide +kernel)))) (bn_one (sn_ret (mono_lst (mono_cons mono_up (mono_cons (mono_cell (mono_ifE mono_th (mono_call (mf_borders) (mono_pick (mono_app mono_up (mono_cons mono_up mono_up)))) (mono_call (mf_borders) (mono_pick (mono_app mono_up mono_up))))) mono_up))) (en_lst (mono_cons mono_up (mono_cons (mono_cell (mono_ifE mono_th (mono_call (mf_borders) (mono_pick (mono_app mono_up (mono_cons mono_up mono_up)))) (mono_call (mf_borders) (mono_pick (mono_app mono_up mono_up))))) mono_up)) (an_cons mono_up (mono_cons (mono_cell (mono_ifE mono_th (mono_call (mf_borders) (mono_pick (mono_app mono_up (mono_cons mono_up mono_up)))) (mono_call (mf_borders) (mono_pick (mono_app mono_up mono_up))))) mono_up) (en_up (ev_str (l := [116, 111, 108, 100]) (by decide +kernel))) (an_cons (mono_cell (mono_ifE mono_th (mono_call (mf_borders) (mono_pick (mono_app mono_up (mono_cons mono_up mono_up)))) (mono_call (mf_borders) (mono_pick (mono_app mono_up mono_up))))) mono_up (en_cell (mono_ifE mono_th (mono_call (mf_borders) (mono_pick (mono_app mono_up (mono_cons mono_up mono_up)))) (mono_call (mf_borders) (mono_pick (mono_app mono_up mono_up)))) (en_ifE mono_th (mono_call (mf_borders) (mono_pick (mono_app mono_up (mono_cons mono_up mono_up)))) (mono_call (mf_borders) (mono_pick (mono_app mono_up mono_up))) (tn_th (tv_val (ev_n 2))) (en_callG0 (ok_borders T) bg_borders_0_word (lits_ok rfl) (mf_borders) (mono_cons mono_up mono_up) tk' (hr.mono (by decide)) (kn_cons mono_up mono_up (en_up (ev_fz (ev_n 1))) kn_nil)) (en_callG (ok_borders T) bg_borders_1_ (lits_ok rfl) (mf_borders) mono_up mono_up tk' (hr.mono (by decide)) (an_up (av_cons (ev_fz (ev_n 1)) av_nil)) kn_nil))) an_nil)))) (mono_ret (mono_lst (mono_cons mono_up (mono_cons (mono_cell (mono_ifE mono_th (mono_call (mf_borders) (mono_pick (mono_app mono_up (mono_cons mono_up mono_up)))) (mono_call (mf_borders) (mono_pick (mono_app mono_up mono_up))))) mono_up))))) bn_nil)
    (bn_cons (mono_if mono_th (mono_ret (mono_lst (mono_cons mono_up (mono_cons (mono_cell (mono_ifE mono_th (mono_call (mf_border_table) (mono_pick (mono_app mono_up (mono_cons mono_up mono_up)))) (mono_call (mf_border_table) (mono_pick (mono_app mono_up mono_up))))) mono_up)))) mono_up) (mono_seq (mono_if mono_th (mono_ret (mono_lst (mono_cons mono_up (mono_cons (mono_cell (mono_ifE mono_th (mono_call (mf_prefix_table) (mono_pick (mono_app mono_up (mono_cons mono_up mono_up)))) (mono_call (mf_prefix_table) (mono_pick (mono_app mono_up mono_up))))) mono_up)))) mono_up) (mono_ret (mono_lst (mono_cons mono_up (mono_cons (mono_cell (mono_ifE mono_th (mono_call (mf_exponent) (mono_pick (mono_app mono_up (mono_cons mono_up mono_up)))) (mono_call (mf_exponent) (mono_pick (mono_app mono_up mono_up))))) mono_up))))) (sn_if mono_th (mono_ret (mono_lst (mono_cons mono_up (mono_cons (mono_cell (mono_ifE mono_th (mono_call (mf_border_table) (mono_pick (mono_app mono_up (mono_cons mono_up mono_up)))) (mono_call (mf_border_table) (mono_pick (mono_app mono_up mono_up))))) mono_up)))) mono_up (tn_th (tv_cmp (op_eqX (hr.units)) opd_eq (nomark _) (ev_n 0) (ev_str (l := [116, 97, 98, 108, 101]) (by decide +kernel)))) (bn_one (sn_ret (mono_lst (mono_cons mono_up (mono_cons (mono_cell (mono_ifE mono_th (mono_call (mf_border_table) (mono_pick (mono_app mono_up (mono_cons mono_up mono_up)))) (mono_call (mf_border_table) (mono_pick (mono_app mono_up mono_up))))) mono_up))) (en_lst (mono_cons mono_up (mono_cons (mono_cell (mono_ifE mono_th (mono_call (mf_border_table) (mono_pick (mono_app mono_up (mono_cons mono_up mono_up)))) (mono_call (mf_border_table) (mono_pick (mono_app mono_up mono_up))))) mono_up)) (an_cons mono_up (mono_cons (mono_cell (mono_ifE mono_th (mono_call (mf_border_table) (mono_pick (mono_app mono_up (mono_cons mono_up mono_up)))) (mono_call (mf_border_table) (mono_pick (mono_app mono_up mono_up))))) mono_up) (en_up (ev_str (l := [116, 111, 108, 100]) (by decide +kernel))) (an_cons (mono_cell (mono_ifE mono_th (mono_call (mf_border_table) (mono_pick (mono_app mono_up (mono_cons mono_up mono_up)))) (mono_call (mf_border_table) (mono_pick (mono_app mono_up mono_up))))) mono_up (en_cell (mono_ifE mono_th (mono_call (mf_border_table) (mono_pick (mono_app mono_up (mono_cons mono_up mono_up)))) (mono_call (mf_border_table) (mono_pick (mono_app mono_up mono_up)))) (en_ifE mono_th (mono_call (mf_border_table) (mono_pick (mono_app mono_up (mono_cons mono_up mono_up)))) (mono_call (mf_border_table) (mono_pick (mono_app mono_up mono_up))) (tn_th (tv_val (ev_n 2))) (en_callG0 (ok_border_table T) bg_border_table_0_word (lits_ok rfl) (mf_border_table) (mono_cons mono_up mono_up) tk' (hr.mono (by decide)) (kn_cons mono_up mono_up (en_up (ev_fz (ev_n 1))) kn_nil)) (en_callG (ok_border_table T) bg_border_table_1_ (lits_ok rfl) (mf_border_table) mono_up mono_up tk' (hr.mono (by decide)) (an_up (av_cons (ev_fz (ev_n 1)) av_nil)) kn_nil))) an_nil)))) (mono_ret (mono_lst (mono_cons mono_up (mono_cons (mono_cell (mono_ifE mono_th (mono_call (mf_border_table) (mono_pick (mono_app mono_up (mono_cons mono_up mono_up)))) (mono_call (mf_border_table) (mono_pick (mono_app mono_up mono_up))))) mono_up))))) bn_nil)
    (bn_cons (mono_if mono_th (mono_ret (mono_lst (mono_cons mono_up (mono_cons (mono_cell (mono_ifE mono_th (mono_call (mf_prefix_table) (mono_pick (mono_app mono_up (mono_cons mono_up mono_up)))) (mono_call (mf_prefix_table) (mono_pick (mono_app mono_up mono_up))))) mono_up)))) mono_up) (mono_ret (mono_lst (mono_cons mono_up (mono_cons (mono_cell (mono_ifE mono_th (mono_call (mf_exponent) (mono_pick (mono_app mono_up (mono_cons mono_up mono_up)))) (mono_call (mf_exponent) (mono_pick (mono_app mono_up mono_up))))) mono_up)))) (sn_if mono_th (mono_ret (mono_lst (mono_cons mono_up (mono_cons (mono_cell (mono_ifE mono_th (mono_call (mf_prefix_table) (mono_pick (mono_app mono_up (mono_cons mono_up mono_up)))) (mono_call (mf_prefix_table) (mono_pick (mono_app mono_up mono_up))))) mono_up)))) mono_up (tn_th (tv_cmp (op_eqX (hr.units)) opd_eq (nomark _) (ev_n 0) (ev_str (l := [112, 114, 101, 102, 105, 120, 101, 115]) (by decide +kernel)))) (bn_one (sn_ret (mono_lst (mono_cons mono_up (mono_cons (mono_cell (mono_ifE mono_th (mono_call (mf_prefix_table) (mono_pick (mono_app mono_up (mono_cons mono_up mono_up)))) (mono_call (mf_prefix_table) (mono_pick (mono_app mono_up mono_up))))) mono_up))) (en_lst (mono_cons mono_up (mono_cons (mono_cell (mono_ifE mono_th (mono_call (mf_prefix_table) (mono_pick (mono_app mono_up (mono_cons mono_up mono_up)))) (mono_call (mf_prefix_table) (mono_pick (mono_app mono_up mono_up))))) mono_up)) (an_cons mono_up (mono_cons (mono_cell (mono_ifE mono_th (mono_call (mf_prefix_table) (mono_pick (mono_app mono_up (mono_cons mono_up mono_up)))) (mono_call (mf_prefix_table) (mono_pick (mono_app mono_up mono_up))))) mono_up) (en_up (ev_str (l := [116, 111, 108, 100]) (by decide +kernel))) (an_cons (mono_cell (mono_ifE mono_th (mono_call (mf_prefix_table) (mono_pick (mono_app mono_up (mono_cons mono_up mono_up)))) (mono_call (mf_prefix_table) (mono_pick (mono_app mono_up mono_up))))) mono_up (en_cell (mono_ifE mono_th (mono_call (mf_prefix_table) (mono_pick (mono_app mono_up (mono_cons mono_up mono_up)))) (mono_call (mf_prefix_table) (mono_pick (mono_app mono_up mono_up)))) (en_ifE mono_th (mono_call (mf_prefix_table) (mono_pick (mono_app mono_up (mono_cons mono_up mono_up)))) (mono_call (mf_prefix_table) (mono_pick (mono_app mono_up mono_up))) (tn_th (tv_val (ev_n 2))) (en_callG0 (ok_prefix_table T) bg_prefix_table_0_word (lits_ok rfl) (mf_prefix_table) (mono_cons mono_up mono_up) tk' (hr.mono (by decide)) (kn_cons mono_up mono_up (en_up (ev_fz (ev_n 1))) kn_nil)) (en_callG (ok_prefix_table T) bg_prefix_table_1_ (lits_ok rfl) (mf_prefix_table) mono_up mono_up tk' (hr.mono (by decide)) (an_up (av_cons (ev_fz (ev_n 1)) av_nil)) kn_nil))) an_nil)))) (mono_ret (mono_lst (mono_cons mono_up (mono_cons (mono_cell (mono_ifE mono_th (mono_call (mf_prefix_table) (mono_pick (mono_app mono_up (mono_cons mono_up mono_up)))) (mono_call (mf_prefix_table) (mono_pick (mono_app mono_up mono_up))))) mono_up))))) bn_nil)
    (bn_one (sn_ret (mono_lst (mono_cons mono_up (mono_cons (mono_cell (mono_ifE mono_th (mono_call (mf_exponent) (mono_pick (mono_app mono_up (mono_cons mono_up mono_up)))) (mono_call (mf_exponent) (mono_pick (mono_app mono_up mono_up))))) mono_up))) (en_lst (mono_cons mono_up (mono_cons (mono_cell (mono_ifE mono_th (mono_call (mf_exponent) (mono_pick (mono_app mono_up (mono_cons mono_up mono_up)))) (mono_call (mf_exponent) (mono_pick (mono_app mono_up mono_up))))) mono_up)) (an_cons mono_up (mono_cons (mono_cell (mono_ifE mono_th (mono_call (mf_exponent) (mono_pick (mono_app mono_up (mono_cons mono_up mono_up)))) (mono_call (mf_exponent) (mono_pick (mono_app mono_up mono_up))))) mono_up) (en_up (ev_str (l := [116, 111, 108, 100]) (by decide +kernel))) (an_cons (mono_cell (mono_ifE mono_th (mono_call (mf_exponent) (mono_pick (mono_app mono_up (mono_cons mono_up mono_up)))) (mono_call (mf_exponent) (mono_pick (mono_app mono_up mono_up))))) mono_up (en_cell (mono_ifE mono_th (mono_call (mf_exponent) (mono_pick (mono_app mono_up (mono_cons mono_up mono_up)))) (mono_call (mf_exponent) (mono_pick (mono_app mono_up mono_up)))) (en_ifE mono_th (mono_call (mf_exponent) (mono_pick (mono_app mono_up (mono_cons mono_up mono_up)))) (mono_call (mf_exponent) (mono_pick (mono_app mono_up mono_up))) (tn_th (tv_val (ev_n 2))) (en_callG0 (ok_exponent T) bg_exponent_0_word (lits_ok rfl) (mf_exponent) (mono_cons mono_up mono_up) tk' (hr.mono (by decide)) (kn_cons mono_up mono_up (en_up (ev_fz (ev_n 1))) kn_nil)) (en_callG (ok_exponent T) bg_exponent_1_ (lits_ok rfl) (mf_exponent) mono_up mono_up tk' (hr.mono (by decide)) (an_up (av_cons (ev_fz (ev_n 1)) av_nil)) kn_nil))) an_nil)))) (mono_ret (mono_lst (mono_cons mono_up (mono_cons (mono_cell (mono_ifE mono_th (mono_call (mf_exponent) (mono_pick (mono_app mono_up (mono_cons mono_up mono_up)))) (mono_call (mf_exponent) (mono_pick (mono_app mono_up mono_up))))) mono_up)))))))))))
    (.named (List.Mem.tail _ (List.Mem.head _)) rfl (by decide) rfl rfl (fun a dd C pn oe x1 x2 hz hf => (bv_one (sv_ret (ev_lstE (av_cons (ev_fz (ev_str (l := [119, 111, 114, 100]) (by decide +kernel))) (av_cons (ev_fz (ev_given x1 (x2 _ (List.Mem.head _)) hz hf (ev_n 3))) av_nil)))))) (.plain (List.Mem.tail _ (List.Mem.tail _ (List.Mem.head _))) rfl (by decide) (fun a dd pn oe => (bv_one (sv_ret (ev_lstE (av_cons (ev_fz (ev_str (l := [101, 109, 112, 116, 121]) (by decide +kernel))) (av_cons (ev_fz ev_non) av_nil)))))) .nil))) (mono_try (mono_seq (mono_if mono_th (mono_ret (mono_lst (mono_cons mono_up (mono_cons (mono_cell (mono_ifE mono_th (mono_call (mf_periods) (mono_pick (mono_app mono_up (mono_cons mono_up mono_up)))) (mono_call (mf_periods) (mono_pick (mono_app mono_up mono_up))))) mono_up)))) mono_up) (mono_seq (mono_if mono_th (mono_ret (mono_lst (mono_cons mono_up (mono_cons (mono_cell (mono_ifE mono_th (mono_call (mf_least_period) (mono_pick (mono_app mono_up (mono_cons mono_up mono_up)))) (mono_call (mf_least_period) (mono_pick (mono_app mono_up mono_up))))) mono_up)))) mono_up) (mono_seq (mono_if mono_th (mono_ret (mono_lst (mono_cons mono_up (mono_cons (mono_cell (mono_ifE mono_th (mono_call (mf_borders) (mono_pick (mono_app mono_up (mono_cons mono_up mono_up)))) (mono_call (mf_borders) (mono_pick (mono_app mono_up mono_up))))) mono_up)))) mono_up) (mono_seq (mono_if mono_th (mono_ret (mono_lst (mono_cons mono_up (mono_cons (mono_cell (mono_ifE mono_th (mono_call (mf_border_table) (mono_pick (mono_app mono_up (mono_cons mono_up mono_up)))) (mono_call (mf_border_table) (mono_pick (mono_app mono_up mono_up))))) mono_up)))) mono_up) (mono_seq (mono_if mono_th (mono_ret (mono_lst (mono_cons mono_up (mono_cons (mono_cell (mono_ifE mono_th (mono_call (mf_prefix_table) (mono_pick (mono_app mono_up (mono_cons mono_up mono_up)))) (mono_call (mf_prefix_table) (mono_pick (mono_app mono_up mono_up))))) mono_up)))) mono_up) (mono_ret (mono_lst (mono_cons mono_up (mono_cons (mono_cell (mono_ifE mono_th (mono_call (mf_exponent) (mono_pick (mono_app mono_up (mono_cons mono_up mono_up)))) (mono_call (mf_exponent) (mono_pick (mono_app mono_up mono_up))))) mono_up)))))))))))
theorem fok__law_fraction (T : Tx K mg) (f : Addr) (fd : FuncData) (F : Fun K "_law_fraction" "_law_fraction" s__law_fraction f fd) : FnOk P w K mg base CX0 1 f fd ["top", "bottom"] (spV K F__law_fraction) := fn_ok (N := N__law_fraction) (body := B__law_fraction) F sc__law_fraction rfl fun cdv A outer s H E hr =>
    (bv_cons (sv_n 2 sc__law_fraction.nd (ev_fn (CallR_or (call_max2 rfl) (cr_max rfl)) fnd_max rfl T.b_max PyProof.Rows.boot_max (av_cons (ev_comp (own := [("d", 3)]) rfl sc__law_fraction.nd (blkOk_by (N := N__law_fraction) (sc := defScope s__law_fraction) (by decide +kernel)) (iv_range2 rfl T.b_range ev_int (ev_add (ev_n 1) ev_int)) (fun _ _ _ _ _ => (gv_n 3 sc__law_fraction.nd)) (fun _ _ _ _ _ => tsv_one (tv_w (wv_and (tv_cmp (op_eqX (hr.units)) opd_eq (nomark _) (ev_mod (ev_ty call_int1 fnd_int rfl T.b_int PyProof.Rows.boot_int (av_cons (ev_n 0) av_nil)) (ev_n 3)) ev_int) (wv_one_and (tv_cmp (op_eqX (hr.units)) opd_eq (nomark _) (ev_mod (ev_ty call_int1 fnd_int rfl T.b_int PyProof.Rows.boot_int (av_cons (ev_n 1) av_nil)) (ev_n 3)) ev_int))))) (fun _ _ _ _ _ => (ev_n 3))) av_nil)))
    (bv_one (sv_ret (ev_tupE (av_cons (ev_fz (ev_fdiv (ev_n 0) (ev_n 2))) (av_cons (ev_fz (ev_fdiv (ev_n 1) (ev_n 2))) av_nil))))))
theorem ok__law_fraction (T : Tx K mg) : DefOk P w K mg base "_law_fraction" 1 ["top", "bottom"] F__law_fraction := def_of T.d__law_fraction (fok__law_fraction T) (fun _ _ _ _ _ _ us hl => match us, hl with | [_, _], _ => rfl)
theorem fok__law_common (T : Tx K mg) (f : Addr) (fd : FuncData) (F : Fun K "_law_common" "_law_common" s__law_common f fd) : FnOk P w K mg base CX0 1 f fd ["word", "start"] (spV K F__law_common) := fn_ok (N := N__law_common) (body := B__law_common) F sc__law_common rfl fun cdv A outer s H E hr =>
    (bv_cons (sv_n 2 sc__law_common.nd ev_int)
    (bv_cons (sv_for PassesOwn.never rfl (iv_zipT rfl T.b_zip (ev_n 0) (ev_slice (ev_n 0) (ov_some (ev_n 1)) ov_none)) (gv_tup rfl (NmTs.cons (gt_n 3 sc__law_common.nd) (NmTs.cons (gt_n 4 sc__law_common.nd) NmTs.nil))) (bv_cons (sv_if (tv_cmp (op_neX (hr.units)) opd_ne (nomark _) (ev_n 3) (ev_n 4)) (bv_one (sv_ret (ev_n 2))) bv_nil)
    (bv_one (sv_n 2 sc__law_common.nd (ev_add (ev_n 2) ev_int)))))
    (bv_one (sv_ret (ev_n 2)))))
theorem ok__law_common (T : Tx K mg) : DefOk P w K mg base "_law_common" 1 ["word", "start"] F__law_common := def_of T.d__law_common (fok__law_common T) (fun _ _ _ _ _ _ us hl => match us, hl with | [_, _], _ => rfl)
theorem bg__law_ask_3_ : BindG "_law_ask" s__law_ask ["word", "value", "named"] 3 [] [.inl 0, .inl 1, .inl 2] 0 := .inl ⟨rfl, fun _ _ _ _ _ _ us ws h1 h2 => match us, h1, ws, h2 with | [_, _, _], _, [], _ => rfl⟩
theorem mo__law_right : Mono (B__law_right) := (mono_seq mono_up (mono_seq mono_up (mono_seq mono_up (mono_seq mono_up (mono_seq mono_up (mono_seq mono_up (mono_seq (mono_for (mono_for (mono_seq (mono_set (mono_call (mf__law_ask) (mono_pick (mono_app mono_up mono_up)))) (mono_seq (mono_if mono_th mono_up mono_up) (mono_seq (mono_if mono_th (mono_drop (mono_mu mono_up mono_up)) mono_up) mono_up))))) (mono_seq (mono_set (mono_call (mf__law_ask) (mono_pick (mono_app mono_up mono_up)))) mono_up))))))))
theorem mf__law_right : MonoF (F__law_right) := mono_run (mo__law_right)
theorem ok__law_right (T : Tx K mg) : DefG P w K mg base (L2.CX P w) "_law_right" s__law_right 7 ["word", "named"] [] (spN K mg (F__law_right)) :=
  defG_of T.d__law_right fun f fd F => fn_okN (N := N__law_right) (ps := ["word", "named"]) F sc__law_right (mo__law_right) fun cdv A outer s H E hr tk =>
    (bn_cons mono_up (mono_seq mono_up (mono_seq mono_up (mono_seq mono_up (mono_seq mono_up (mono_seq mono_up (mono_seq (mono_for (mono_for (mono_seq (mono_set (mono_call (mf__law_ask) (mono_pick (mono_app mono_up mono_up)))) (mono_seq (mono_if mono_th mono_up mono_up) (mono_seq (mono_if mono_th (mono_drop (mono_mu mono_up mono_up)) mono_up) mono_up))))) (mono_seq (mono_set (mono_call (mf__law_ask) (mono_pick (mono_app mono_up mono_up)))) mono_up))))))) (sn_up (sv_nox (sv_n 2 sc__law_right.nd (ev_fn call_len fnd_len rfl T.b_len PySem.boot_len (av_cons (ev_n 0) av_nil)))))
    (bn_cons mono_up (mono_seq mono_up (mono_seq mono_up (mono_seq mono_up (mono_seq mono_up (mono_seq (mono_for (mono_for (mono_seq (mono_set (mono_call (mf__law_ask) (mono_pick (mono_app mono_up mono_up)))) (mono_seq (mono_if mono_th mono_up mono_up) (mono_seq (mono_if mono_th (mono_drop (mono_mu mono_up mono_up)) mono_up) mono_up))))) (mono_seq (mono_set (mono_call (mf__law_ask) (mono_pick (mono_app mono_up mono_up)))) mono_up)))))) (sn_up (sv_nox (sv_n 3 sc__law_right.nd (ev_comp (own := [("k", 13)]) rfl sc__law_right.nd (blkOk_by (N := N__law_right) (sc := defScope s__law_right) (by decide +kernel)) (iv_range1 rfl T.b_range (ev_n 2)) (fun _ _ _ _ _ => (gv_n 13 sc__law_right.nd)) (fun _ _ _ _ _ => tsv_nil) (fun _ _ _ _ _ => (ev_call (ok__law_common T) (hr.mono (by decide)) (av_cons (ev_fz (ev_n 0)) (av_cons (ev_fz (ev_n 13)) av_nil))))))))
    (bn_cons mono_up (mono_seq mono_up (mono_seq mono_up (mono_seq mono_up (mono_seq (mono_for (mono_for (mono_seq (mono_set (mono_call (mf__law_ask) (mono_pick (mono_app mono_up mono_up)))) (mono_seq (mono_if mono_th mono_up mono_up) (mono_seq (mono_if mono_th (mono_drop (mono_mu mono_up mono_up)) mono_up) mono_up))))) (mono_seq (mono_set (mono_call (mf__law_ask) (mono_pick (mono_app mono_up mono_up)))) mono_up))))) (sn_up (sv_nox (sv_setComp (own := [("p", 14)]) (i := 4) rfl sc__law_right.nd rfl rfl (sw_true rfl rfl rfl (by decide +kernel)) (blkOk_by (N := N__law_right) (sc := defScope s__law_right) (by decide +kernel)) (iv_range2 rfl T.b_range ev_int (ev_add (ev_n 2) ev_int)) (fun _ _ _ _ _ => (gv_n 14 sc__law_right.nd)) (fun _ _ _ _ _ => tsv_one (tv_w (wv_or (tv_cmp (op_eqX (hr.units)) opd_eq (nomark _) (ev_n 14) (ev_n 2)) (wv_one_or (tv_cmp (op_eqX (hr.units)) opd_eq (nomark _) (ev_item (fun _ _ => rfl) (ev_n 3) (ev_n 14)) (ev_sub (ev_n 2) (ev_n 14))))))) (fun _ _ _ _ _ => (ev_n 14)))))
    (bn_cons mono_up (mono_seq mono_up (mono_seq mono_up (mono_seq (mono_for (mono_for (mono_seq (mono_set (mono_call (mf__law_ask) (mono_pick (mono_app mono_up mono_up)))) (mono_seq (mono_if mono_th mono_up mono_up) (mono_seq (mono_if mono_th (mono_drop (mono_mu mono_up mono_up)) mono_up) mono_up))))) (mono_seq (mono_set (mono_call (mf__law_ask) (mono_pick (mono_app mono_up mono_up)))) mono_up)))) (sn_up (sv_nox (sv_n 5 sc__law_right.nd (ev_mulL (ev_lstE (av_cons (ev_fz ev_int) av_nil)) (ev_n 2)))))
    (bn_cons mono_up (mono_seq mono_up (mono_seq (mono_for (mono_for (mono_seq (mono_set (mono_call (mf__law_ask) (mono_pick (mono_app mono_up mono_up)))) (mono_seq (mono_if mono_th mono_up mono_up) (mono_seq (mono_if mono_th (mono_drop (mono_mu mono_up mono_up)) mono_up) mono_up))))) (mono_seq (mono_set (mono_call (mf__law_ask) (mono_pick (mono_app mono_up mono_up)))) mono_up))) (sn_up (sv_nox (sv_for PassesOwn.never rfl (iv_range2 rfl T.b_range ev_int (ev_n 2)) (gv_n 6 sc__law_right.nd) (bv_one (sv_for PassesOwn.never rfl (iv_range2 rfl T.b_range (ev_n 6) (ev_add (ev_n 6) (ev_item (fun _ _ => rfl) (ev_n 3) (ev_n 6)))) (gv_n 7 sc__law_right.nd) (bv_one (sv_put (pv 5) (ev_n 7) (ev_fn (CallR_or (call_max2 rfl) (cr_max rfl)) fnd_max rfl T.b_max PyProof.Rows.boot_max (av_cons (ev_item (fun _ _ => rfl) (ev_n 5) (ev_n 7)) (av_cons (ev_add (ev_sub (ev_n 7) (ev_n 6)) ev_int) av_nil))))))))))
    (bn_cons mono_up (mono_seq (mono_for (mono_for (mono_seq (mono_set (mono_call (mf__law_ask) (mono_pick (mono_app mono_up mono_up)))) (mono_seq (mono_if mono_th mono_up mono_up) (mono_seq (mono_if mono_th (mono_drop (mono_mu mono_up mono_up)) mono_up) mono_up))))) (mono_seq (mono_set (mono_call (mf__law_ask) (mono_pick (mono_app mono_up mono_up)))) mono_up)) (sn_up (sv_nox (sv_n 8 sc__law_right.nd (ev_lstE (av_cons (ev_fz (ev_lstE (av_cons (ev_fz (ev_str (l := [112, 101, 114, 105, 111, 100, 115]) (by decide +kernel))) (av_cons (ev_fz (ev_n 4)) av_nil)))) (av_cons (ev_fz (ev_lstE (av_cons (ev_fz (ev_str (l := [108, 101, 97, 115, 116]) (by decide +kernel))) (av_cons (ev_fz (ev_ifE (tv_cmp (op_neX (hr.units)) opd_ne (nomark _) (ev_n 4) (ev_lstE av_nil)) (ev_item (fun _ _ => rfl) (ev_n 4) ev_int) ev_int)) av_nil)))) (av_cons (ev_fz (ev_lstE (av_cons (ev_fz (ev_str (l := [98, 111, 114, 100, 101, 114, 115]) (by decide +kernel))) (av_cons (ev_fz (ev_revL (ev_comp (own := [("p", 14)]) rfl sc__law_right.nd (blkOk_by (N := N__law_right) (sc := defScope s__law_right) (by decide +kernel)) (iv_list (ev_n 4)) (fun _ _ _ _ _ => (gv_n 14 sc__law_right.nd)) (fun _ _ _ _ _ => tsv_nil) (fun _ _ _ _ _ => (ev_sub (ev_n 2) (ev_n 14)))))) av_nil)))) (av_cons (ev_fz (ev_lstE (av_cons (ev_fz (ev_str (l := [116, 97, 98, 108, 101]) (by decide +kernel))) (av_cons (ev_fz (ev_n 5)) av_nil)))) (av_cons (ev_fz (ev_lstE (av_cons (ev_fz (ev_str (l := [112, 114, 101, 102, 105, 120, 101, 115]) (by decide +kernel))) (av_cons (ev_fz (ev_n 3)) av_nil)))) av_nil)))))))))
    (bn_cons (mono_for (mono_for (mono_seq (mono_set (mono_call (mf__law_ask) (mono_pick (mono_app mono_up mono_up)))) (mono_seq (mono_if mono_th mono_up mono_up) (mono_seq (mono_if mono_th (mono_drop (mono_mu mono_up mono_up)) mono_up) mono_up))))) (mono_seq (mono_set (mono_call (mf__law_ask) (mono_pick (mono_app mono_up mono_up)))) mono_up) (sn_for (passes_of rfl) rfl (mono_for (mono_seq (mono_set (mono_call (mf__law_ask) (mono_pick (mono_app mono_up mono_up)))) (mono_seq (mono_if mono_th mono_up mono_up) (mono_seq (mono_if mono_th (mono_drop (mono_mu mono_up mono_up)) mono_up) mono_up)))) (iv_list (ev_n 8)) (gv_lst rfl (NmTs.cons (gt_n 9 sc__law_right.nd) (NmTs.cons (gt_n 10 sc__law_right.nd) NmTs.nil)))
    (bn_one (sn_for (passes_of rfl) rfl (mono_seq (mono_set (mono_call (mf__law_ask) (mono_pick (mono_app mono_up mono_up)))) (mono_seq (mono_if mono_th mono_up mono_up) (mono_seq (mono_if mono_th (mono_drop (mono_mu mono_up mono_up)) mono_up) mono_up))) (iv_range1 rfl T.b_range ev_int) (gv_n 11 sc__law_right.nd)
    (bn_cons (mono_set (mono_call (mf__law_ask) (mono_pick (mono_app mono_up mono_up)))) (mono_seq (mono_if mono_th mono_up mono_up) (mono_seq (mono_if mono_th (mono_drop (mono_mu mono_up mono_up)) mono_up) mono_up)) (sn_set 12 sc__law_right.nd (mono_call (mf__law_ask) (mono_pick (mono_app mono_up mono_up))) (en_callG (ok__law_ask T) bg__law_ask_3_ (lits_ok rfl) (mf__law_ask) mono_up mono_up tk (hr.mono (by decide)) (an_up (av_cons (ev_fz (ev_n 9)) (av_cons (ev_fz (ev_n 0)) (av_cons (ev_fz (ev_n 1)) av_nil)))) kn_nil))
    (bn_cons (mono_if mono_th mono_up mono_up) (mono_seq (mono_if mono_th (mono_drop (mono_mu mono_up mono_up)) mono_up) mono_up) (sn_if mono_th mono_up mono_up (tn_th (tv_not (tv_val (ev_call (ok__law_same T 5) (hr.mono (by decide)) (av_cons (ev_fz (ev_n 12)) (av_cons (ev_fz (ev_lstE (av_cons (ev_fz (ev_str (l := [116, 111, 108, 100]) (by decide +kernel))) (av_cons (ev_fz (ev_n 10)) av_nil)))) av_nil)))))) (bn_up (bv_nox (bv_one (sv_ret ev_bl)))) bn_nil)
    (bn_cons (mono_if mono_th (mono_drop (mono_mu mono_up mono_up)) mono_up) mono_up (sn_if mono_th (mono_drop (mono_mu mono_up mono_up)) mono_up (tn_th (tv_val (ev_fn call_isi fnd_isi rfl T.b_isinstance PyProof.Rows.boot_isinstance (av_cons (ev_item (fun _ _ => rfl) (ev_n 12) ev_int) (av_cons (ev_cls rfl T.b_list (by decide +kernel)) av_nil))))) (bn_one (sn_drop (mono_mu mono_up mono_up) (en_insertC mono_up mono_up (en_up (ev_item (fun _ _ => rfl) (ev_n 12) ev_int)) (an_up (av_cons (ev_fz ev_int) (av_cons (ev_fz ev_int) av_nil))))) (mono_drop (mono_mu mono_up mono_up))) bn_nil)
    (bn_up (bv_nox (bv_one (sv_n 1 sc__law_right.nd (ev_not (ev_n 1)))))))))) (mono_for (mono_seq (mono_set (mono_call (mf__law_ask) (mono_pick (mono_app mono_up mono_up)))) (mono_seq (mono_if mono_th mono_up mono_up) (mono_seq (mono_if mono_th (mono_drop (mono_mu mono_up mono_up)) mono_up) mono_up))))))
    (bn_cons (mono_set (mono_call (mf__law_ask) (mono_pick (mono_app mono_up mono_up)))) mono_up (sn_set 12 sc__law_right.nd (mono_call (mf__law_ask) (mono_pick (mono_app mono_up mono_up))) (en_callG (ok__law_ask T) bg__law_ask_3_ (lits_ok rfl) (mf__law_ask) mono_up mono_up tk (hr.mono (by decide)) (an_up (av_cons (ev_fz (ev_str (l := [101, 120, 112, 111, 110, 101, 110, 116]) (by decide +kernel))) (av_cons (ev_fz (ev_n 0)) (av_cons (ev_fz (ev_n 1)) av_nil)))) kn_nil))
    (bn_up (bv_nox (bv_one (sv_ret (ev_call (ok__law_same T 5) (hr.mono (by decide)) (av_cons (ev_fz (ev_n 12)) (av_cons (ev_fz (ev_ifE (tv_cmp (op_eqX (hr.units)) opd_eq (nomark _) (ev_n 2) ev_int) (ev_lstE (av_cons (ev_fz (ev_str (l := [101, 109, 112, 116, 121]) (by decide +kernel))) (av_cons (ev_fz ev_non) av_nil))) (ev_lstE (av_cons (ev_fz (ev_str (l := [116, 111, 108, 100]) (by decide +kernel))) (av_cons (ev_fz (ev_call (ok__law_fraction T) (hr.mono (by decide)) (av_cons (ev_fz (ev_n 2)) (av_cons (ev_fz (ev_item (fun _ _ => rfl) (ev_n 4) ev_int)) av_nil)))) av_nil))))) av_nil)))))))))))))))
theorem bg__law_right_2_ : BindG "_law_right" s__law_right ["word", "named"] 2 [] [.inl 0, .inl 1] 0 := .inl ⟨rfl, fun _ _ _ _ _ _ us ws h1 h2 => match us, h1, ws, h2 with | [_, _], _, [], _ => rfl⟩
theorem bg__law_bad_word_1_ : BindG "_law_bad_word" s__law_bad_word ["box"] 1 [] [.inl 0] 0 := .inl ⟨rfl, fun _ _ _ _ _ _ us ws h1 h2 => match us, h1, ws, h2 with | [_], _, [], _ => rfl⟩
theorem bg__law_very_2_ : BindG "_law_very" s__law_very ["given", "value"] 2 [] [.inl 0, .inl 1] 0 := .inl ⟨rfl, fun _ _ _ _ _ _ us ws h1 h2 => match us, h1, ws, h2 with | [_, _], _, [], _ => rfl⟩
theorem mo_law : Mono (B_law) := (mono_seq mono_up (mono_seq (mono_for (mono_seq mono_up (mono_seq mono_up (mono_seq mono_up (mono_seq mono_up (mono_seq (mono_try (mono_if (mono_or2 (mono_not (mono_b (mono_call (mf__law_right) (mono_pick (mono_app mono_up mono_up))))) (mono_or2 (mono_not (mono_b (mono_call (mf__law_right) (mono_pick (mono_app mono_up mono_up))))) (mono_not (mono_b (mono_call (mf__law_right) (mono_pick (mono_app mono_up mono_up))))))) mono_up mono_up)) (mono_for (mono_seq (mono_set (mono_call (mf__law_bad_word) (mono_pick (mono_app mono_up mono_up)))) (mono_seq (mono_set (mono_call (mf__law_ask) (mono_pick (mono_app mono_up mono_up)))) (mono_seq (mono_if (mono_or2 mono_th (mono_not (mono_b (mono_call (mf__law_very) (mono_pick (mono_app mono_up mono_up)))))) mono_up mono_up) mono_up)))))))))) mono_up))
theorem fok_law (T : Tx K mg) (f : Addr) (fd : FuncData) (F : Fun K "law" "law" s_law f fd) : FnOk P w K mg base CX0 8 f fd ["script"] (spV K F_law) := fn_okT (N := N_law) (body := B_law) F sc_law (mo_law) T.h_law fun cdv A outer s H E hr =>
    (bn_cons mono_up (mono_seq (mono_for (mono_seq mono_up (mono_seq mono_up (mono_seq mono_up (mono_seq mono_up (mono_seq (mono_try (mono_if (mono_or2 (mono_not (mono_b (mono_call (mf__law_right) (mono_pick (mono_app mono_up mono_up))))) (mono_or2 (mono_not (mono_b (mono_call (mf__law_right) (mono_pick (mono_app mono_up mono_up))))) (mono_not (mono_b (mono_call (mf__law_right) (mono_pick (mono_app mono_up mono_up))))))) mono_up mono_up)) (mono_for (mono_seq (mono_set (mono_call (mf__law_bad_word) (mono_pick (mono_app mono_up mono_up)))) (mono_seq (mono_set (mono_call (mf__law_ask) (mono_pick (mono_app mono_up mono_up)))) (mono_seq (mono_if (mono_or2 mono_th (mono_not (mono_b (mono_call (mf__law_very) (mono_pick (mono_app mono_up mono_up)))))) mono_up mono_up) mono_up)))))))))) mono_up) (sn_up (sv_nox (sv_n 1 sc_law.nd (ev_cmp (op_eqX (hr.units)) opd_eq (nomark _) (ev_mod (ev_ty call_int1 fnd_int rfl T.b_int PyProof.Rows.boot_int (av_cons (ev_fn (cr_sum rfl) fnd_sum rfl T.b_sum PyProof.Rows.boot_sum (av_cons (ev_slice (ev_n 0) ov_none (ov_some ev_int)) av_nil)) av_nil)) ev_int) ev_int))))
    (bn_cons (mono_for (mono_seq mono_up (mono_seq mono_up (mono_seq mono_up (mono_seq mono_up (mono_seq (mono_try (mono_if (mono_or2 (mono_not (mono_b (mono_call (mf__law_right) (mono_pick (mono_app mono_up mono_up))))) (mono_or2 (mono_not (mono_b (mono_call (mf__law_right) (mono_pick (mono_app mono_up mono_up))))) (mono_not (mono_b (mono_call (mf__law_right) (mono_pick (mono_app mono_up mono_up))))))) mono_up mono_up)) (mono_for (mono_seq (mono_set (mono_call (mf__law_bad_word) (mono_pick (mono_app mono_up mono_up)))) (mono_seq (mono_set (mono_call (mf__law_ask) (mono_pick (mono_app mono_up mono_up)))) (mono_seq (mono_if (mono_or2 mono_th (mono_not (mono_b (mono_call (mf__law_very) (mono_pick (mono_app mono_up mono_up)))))) mono_up mono_up) mono_up)))))))))) mono_up (sn_for PassesOwn.never rfl (mono_seq mono_up (mono_seq mono_up (mono_seq mono_up (mono_seq mono_up (mono_seq (mono_try (mono_if (mono_or2 (mono_not (mono_b (mono_call (mf__law_right) (mono_pick (mono_app mono_up mono_up))))) (mono_or2 (mono_not (mono_b (mono_call (mf__law_right) (mono_pick (mono_app mono_up mono_up))))) (mono_not (mono_b (mono_call (mf__law_right) (mono_pick (mono_app mono_up mono_up))))))) mono_up mono_up)) (mono_for (mono_seq (mono_set (mono_call (mf__law_bad_word) (mono_pick (mono_app mono_up mono_up)))) (mono_seq (mono_set (mono_call (mf__law_ask) (mono_pick (mono_app mono_up mono_up)))) (mono_seq (mono_if (mono_or2 mono_th (mono_not (mono_b (mono_call (mf__law_very) (mono_pick (mono_app mono_up mono_up)))))) mono_up mono_up) mono_up))))))))) (iv_range1 rfl T.b_range (ev_fn (CallR_or (call_max2 rfl) (cr_max rfl)) fnd_max rfl T.b_max PyProof.Rows.boot_max (av_cons ev_int (av_cons (ev_fn (CallR_or (call_min2 rfl) (cr_min rfl)) fnd_min rfl T.b_min PyProof.Rows.boot_min (av_cons ev_int (av_cons (ev_fn call_len fnd_len rfl T.b_len PySem.boot_len (av_cons (ev_n 0) av_nil)) av_nil))) av_nil)))) (gv_n 2 sc_law.nd)
    (bn_cons mono_up (mono_seq mono_up (mono_seq mono_up (mono_seq mono_up (mono_seq (mono_try (mono_if (mono_or2 (mono_not (mono_b (mono_call (mf__law_right) (mono_pick (mono_app mono_up mono_up))))) (mono_or2 (mono_not (mono_b (mono_call (mf__law_right) (mono_pick (mono_app mono_up mono_up))))) (mono_not (mono_b (mono_call (mf__law_right) (mono_pick (mono_app mono_up mono_up))))))) mono_up mono_up)) (mono_for (mono_seq (mono_set (mono_call (mf__law_bad_word) (mono_pick (mono_app mono_up mono_up)))) (mono_seq (mono_set (mono_call (mf__law_ask) (mono_pick (mono_app mono_up mono_up)))) (mono_seq (mono_if (mono_or2 mono_th (mono_not (mono_b (mono_call (mf__law_very) (mono_pick (mono_app mono_up mono_up)))))) mono_up mono_up) mono_up)))))))) (sn_up (sv_nox (sv_n 3 sc_law.nd (ev_call (ok__law_box T) (hr.mono (by decide)) (av_cons (ev_fz (ev_call (ok__law_cell T) (hr.mono (by decide)) (av_cons (ev_fz (ev_n 0)) (av_cons (ev_fz (ev_n 2)) av_nil)))) av_nil)))))
    (bn_cons mono_up (mono_seq mono_up (mono_seq mono_up (mono_seq (mono_try (mono_if (mono_or2 (mono_not (mono_b (mono_call (mf__law_right) (mono_pick (mono_app mono_up mono_up))))) (mono_or2 (mono_not (mono_b (mono_call (mf__law_right) (mono_pick (mono_app mono_up mono_up))))) (mono_not (mono_b (mono_call (mf__law_right) (mono_pick (mono_app mono_up mono_up))))))) mono_up mono_up)) (mono_for (mono_seq (mono_set (mono_call (mf__law_bad_word) (mono_pick (mono_app mono_up mono_up)))) (mono_seq (mono_set (mono_call (mf__law_ask) (mono_pick (mono_app mono_up mono_up)))) (mono_seq (mono_if (mono_or2 mono_th (mono_not (mono_b (mono_call (mf__law_very) (mono_pick (mono_app mono_up mono_up)))))) mono_up mono_up) mono_up))))))) (sn_up (sv_nox (sv_par2 (fs := _) (i := 4) (j := 5) rfl sc_law.nd rfl rfl (by decide) rfl rfl (ao_cons (ev_cmp (op_eqX (hr.units)) opd_eq (nomark _) (ev_call (ok__law_take T) (hr.mono (by decide)) (av_cons (ev_n 3) (av_cons (ev_fz ev_int) av_nil))) ev_int) (ao_cons (ev_add ev_int (ev_call (ok__law_take T) (hr.mono (by decide)) (av_cons (ev_n 3) (av_cons (ev_fz ev_int) av_nil)))) ao_nil)) rfl)))
    (bn_cons mono_up (mono_seq mono_up (mono_seq (mono_try (mono_if (mono_or2 (mono_not (mono_b (mono_call (mf__law_right) (mono_pick (mono_app mono_up mono_up))))) (mono_or2 (mono_not (mono_b (mono_call (mf__law_right) (mono_pick (mono_app mono_up mono_up))))) (mono_not (mono_b (mono_call (mf__law_right) (mono_pick (mono_app mono_up mono_up))))))) mono_up mono_up)) (mono_for (mono_seq (mono_set (mono_call (mf__law_bad_word) (mono_pick (mono_app mono_up mono_up)))) (mono_seq (mono_set (mono_call (mf__law_ask) (mono_pick (mono_app mono_up mono_up)))) (mono_seq (mono_if (mono_or2 mono_th (mono_not (mono_b (mono_call (mf__law_very) (mono_pick (mono_app mono_up mono_up)))))) mono_up mono_up) mono_up)))))) (sn_up (sv_nox (sv_n 6 sc_law.nd (ev_call (ok__law_word T) (hr.mono (by decide)) (av_cons (ev_n 3) (av_cons (ev_fz (ev_n 5)) (av_cons (ev_fz ev_int) av_nil)))))))
    (bn_cons mono_up (mono_seq (mono_try (mono_if (mono_or2 (mono_not (mono_b (mono_call (mf__law_right) (mono_pick (mono_app mono_up mono_up))))) (mono_or2 (mono_not (mono_b (mono_call (mf__law_right) (mono_pick (mono_app mono_up mono_up))))) (mono_not (mono_b (mono_call (mf__law_right) (mono_pick (mono_app mono_up mono_up))))))) mono_up mono_up)) (mono_for (mono_seq (mono_set (mono_call (mf__law_bad_word) (mono_pick (mono_app mono_up mono_up)))) (mono_seq (mono_set (mono_call (mf__law_ask) (mono_pick (mono_app mono_up mono_up)))) (mono_seq (mono_if (mono_or2 mono_th (mono_not (mono_b (mono_call (mf__law_very) (mono_pick (mono_app mono_up mono_up)))))) mono_up mono_up) mono_up))))) (sn_up (sv_nox (sv_if (tv_w (wv_and (tv_val (ev_n 1)) (wv_one_and (tv_cmp (op_eqX (hr.units)) opd_eq (nomark _) (ev_n 2) ev_int)))) (bv_cons (sv_n 6 sc_law.nd (ev_item (fun _ _ => rfl) (ev_lstE (av_cons (ev_fz (ev_mulS (ev_add (ev_n 6) (ev_str (l := [97, 98]) (by decide +kernel))) ev_int)) (av_cons (ev_fz (ev_call (ok__law_thue T) (hr.mono (by decide)) (av_cons (ev_fz (ev_call (ok__law_take T) (hr.mono (by decide)) (av_cons (ev_n 3) (av_cons (ev_fz ev_int) av_nil)))) (av_cons (ev_fz ev_int) av_nil)))) (av_cons (ev_fz (ev_mulS (ev_str (l := [97]) (by decide +kernel)) ev_int)) (av_cons (ev_fz (ev_mulS (ev_add (ev_mulS (ev_str (l := [97]) (by decide +kernel)) ev_int) (ev_str (l := [98]) (by decide +kernel))) ev_int)) (av_cons (ev_fz (ev_add (ev_mulS (ev_call (ok__law_rotation_word T) (hr.mono (by decide)) (av_cons (ev_n 3) (av_cons (ev_fz ev_int) av_nil))) ev_int) (ev_mulS (ev_str (l := [97, 98, 97, 97, 98]) (by decide +kernel)) ev_int))) av_nil)))))) (ev_call (ok__law_take T) (hr.mono (by decide)) (av_cons (ev_n 3) (av_cons (ev_fz ev_int) av_nil)))))
    (bv_one (sv_n 6 sc_law.nd (ev_slice (ev_n 6) ov_none (ov_some (ev_add ev_int (ev_call (ok__law_take T) (hr.mono (by decide)) (av_cons (ev_n 3) (av_cons (ev_fz ev_int) av_nil))))))))) bv_nil)))
    (bn_cons (mono_try (mono_if (mono_or2 (mono_not (mono_b (mono_call (mf__law_right) (mono_pick (mono_app mono_up mono_up))))) (mono_or2 (mono_not (mono_b (mono_call (mf__law_right) (mono_pick (mono_app mono_up mono_up))))) (mono_not (mono_b (mono_call (mf__law_right) (mono_pick (mono_app mono_up mono_up))))))) mono_up mono_up)) (mono_for (mono_seq (mono_set (mono_call (mf__law_bad_word) (mono_pick (mono_app mono_up mono_up)))) (mono_seq (mono_set (mono_call (mf__law_ask) (mono_pick (mono_app mono_up mono_up)))) (mono_seq (mono_if (mono_or2 mono_th (mono_not (mono_b (mono_call (mf__law_very) (mono_pick (mono_app mono_up mono_up)))))) mono_up mono_up) mono_up)))) (sn_try T.ect sc_law.nd rfl rfl takesN (mono_if (mono_or2 (mono_not (mono_b (mono_call (mf__law_right) (mono_pick (mono_app mono_up mono_up))))) (mono_or2 (mono_not (mono_b (mono_call (mf__law_right) (mono_pick (mono_app mono_up mono_up))))) (mono_not (mono_b (mono_call (mf__law_right) (mono_pick (mono_app mono_up mono_up))))))) mono_up mono_up) (fun W1 pn1 xe1 tk1 => (bn_one (sn_if (mono_or2 (mono_not (mono_b (mono_call (mf__law_right) (mono_pick (mono_app mono_up mono_up))))) (mono_or2 (mono_not (mono_b (mono_call (mf__law_right) (mono_pick (mono_app mono_up mono_up))))) (mono_not (mono_b (mono_call (mf__law_right) (mono_pick (mono_app mono_up mono_up))))))) mono_up mono_up (tn_w (wn_or (mono_not (mono_b (mono_call (mf__law_right) (mono_pick (mono_app mono_up mono_up))))) (mono_or2 (mono_not (mono_b (mono_call (mf__law_right) (mono_pick (mono_app mono_up mono_up))))) (mono_not (mono_b (mono_call (mf__law_right) (mono_pick (mono_app mono_up mono_up)))))) (tn_not (mono_b (mono_call (mf__law_right) (mono_pick (mono_app mono_up mono_up)))) (tn_b (mono_call (mf__law_right) (mono_pick (mono_app mono_up mono_up))) (en_callG (ok__law_right T) bg__law_right_2_ (lits_ok rfl) (mf__law_right) mono_up mono_up tk1 (hr.mono (by decide)) (an_up (av_cons (ev_fz (ev_n 6)) (av_cons (ev_fz (ev_n 4)) av_nil))) kn_nil))) (wn_or (mono_not (mono_b (mono_call (mf__law_right) (mono_pick (mono_app mono_up mono_up))))) (mono_not (mono_b (mono_call (mf__law_right) (mono_pick (mono_app mono_up mono_up))))) (tn_not (mono_b (mono_call (mf__law_right) (mono_pick (mono_app mono_up mono_up)))) (tn_b (mono_call (mf__law_right) (mono_pick (mono_app mono_up mono_up))) (en_callG (ok__law_right T) bg__law_right_2_ (lits_ok rfl) (mf__law_right) mono_up mono_up tk1 (hr.mono (by decide)) (an_up (av_cons (ev_fz (ev_call (ok__law_near T) (hr.mono (by decide)) (av_cons (ev_n 3) (av_cons (ev_fz (ev_slice (ev_n 6) ov_none (ov_some ev_int))) (av_cons (ev_fz (ev_n 5)) av_nil))))) (av_cons (ev_fz (ev_not (ev_n 4))) av_nil))) kn_nil))) (wn_one_or (tn_not (mono_b (mono_call (mf__law_right) (mono_pick (mono_app mono_up mono_up)))) (tn_b (mono_call (mf__law_right) (mono_pick (mono_app mono_up mono_up))) (en_callG (ok__law_right T) bg__law_right_2_ (lits_ok rfl) (mf__law_right) mono_up mono_up tk1 (hr.mono (by decide)) (an_up (av_cons (ev_fz (ev_slice (ev_n 6) ov_none (ov_some (ev_call (ok__law_take T) (hr.mono (by decide)) (av_cons (ev_n 3) (av_cons (ev_fz ev_int) av_nil)))))) (av_cons (ev_fz (ev_n 4)) av_nil))) kn_nil))))))) (bn_up (bv_nox (bv_one (sv_ret ev_bl)))) bn_nil) (mono_if (mono_or2 (mono_not (mono_b (mono_call (mf__law_right) (mono_pick (mono_app mono_up mono_up))))) (mono_or2 (mono_not (mono_b (mono_call (mf__law_right) (mono_pick (mono_app mono_up mono_up))))) (mono_not (mono_b (mono_call (mf__law_right) (mono_pick (mono_app mono_up mono_up))))))) mono_up mono_up)))
    (.plain (List.Mem.head _) rfl (by decide) (fun a dd pn oe => (bv_one (sv_ret ev_bl))) .nil))
    (bn_one (sn_for PassesOwn.never rfl (mono_seq (mono_set (mono_call (mf__law_bad_word) (mono_pick (mono_app mono_up mono_up)))) (mono_seq (mono_set (mono_call (mf__law_ask) (mono_pick (mono_app mono_up mono_up)))) (mono_seq (mono_if (mono_or2 mono_th (mono_not (mono_b (mono_call (mf__law_very) (mono_pick (mono_app mono_up mono_up)))))) mono_up mono_up) mono_up))) (iv_list (ev_lstE (av_cons (ev_fz (ev_str (l := [112, 101, 114, 105, 111, 100, 115]) (by decide +kernel))) (av_cons (ev_fz (ev_str (l := [108, 101, 97, 115, 116]) (by decide +kernel))) (av_cons (ev_fz (ev_str (l := [98, 111, 114, 100, 101, 114, 115]) (by decide +kernel))) (av_cons (ev_fz (ev_str (l := [116, 97, 98, 108, 101]) (by decide +kernel))) (av_cons (ev_fz (ev_str (l := [112, 114, 101, 102, 105, 120, 101, 115]) (by decide +kernel))) (av_cons (ev_fz (ev_str (l := [101, 120, 112, 111, 110, 101, 110, 116]) (by decide +kernel))) av_nil)))))))) (gv_n 7 sc_law.nd)
    (bn_cons (mono_set (mono_call (mf__law_bad_word) (mono_pick (mono_app mono_up mono_up)))) (mono_seq (mono_set (mono_call (mf__law_ask) (mono_pick (mono_app mono_up mono_up)))) (mono_seq (mono_if (mono_or2 mono_th (mono_not (mono_b (mono_call (mf__law_very) (mono_pick (mono_app mono_up mono_up)))))) mono_up mono_up) mono_up)) (sn_set 8 sc_law.nd (mono_call (mf__law_bad_word) (mono_pick (mono_app mono_up mono_up))) (en_callG (ok__law_bad_word T) bg__law_bad_word_1_ (lits_ok rfl) (mf__law_bad_word) mono_up mono_up takesN (hr.mono (by decide)) (an_up (av_cons (ev_n 3) av_nil)) kn_nil))
    (bn_cons (mono_set (mono_call (mf__law_ask) (mono_pick (mono_app mono_up mono_up)))) (mono_seq (mono_if (mono_or2 mono_th (mono_not (mono_b (mono_call (mf__law_very) (mono_pick (mono_app mono_up mono_up)))))) mono_up mono_up) mono_up) (sn_set 9 sc_law.nd (mono_call (mf__law_ask) (mono_pick (mono_app mono_up mono_up))) (en_callG (ok__law_ask T) bg__law_ask_3_ (lits_ok rfl) (mf__law_ask) mono_up mono_up takesN (hr.mono (by decide)) (an_up (av_cons (ev_fz (ev_n 7)) (av_cons (ev_fz (ev_n 8)) (av_cons (ev_fz (ev_n 4)) av_nil)))) kn_nil))
    (bn_cons (mono_if (mono_or2 mono_th (mono_not (mono_b (mono_call (mf__law_very) (mono_pick (mono_app mono_up mono_up)))))) mono_up mono_up) mono_up (sn_if (mono_or2 mono_th (mono_not (mono_b (mono_call (mf__law_very) (mono_pick (mono_app mono_up mono_up)))))) mono_up mono_up (tn_w (wn_or mono_th (mono_not (mono_b (mono_call (mf__law_very) (mono_pick (mono_app mono_up mono_up))))) (tn_th (tv_cmp (op_neX (hr.units)) opd_ne (nomark _) (ev_item (fun _ _ => rfl) (ev_n 9) ev_int) (ev_str (l := [119, 111, 114, 100]) (by decide +kernel)))) (wn_one_or (tn_not (mono_b (mono_call (mf__law_very) (mono_pick (mono_app mono_up mono_up)))) (tn_b (mono_call (mf__law_very) (mono_pick (mono_app mono_up mono_up))) (en_callG (ok__law_very T) bg__law_very_2_ (lits_ok rfl) (mf__law_very) mono_up mono_up takesN (hr.mono (by decide)) (an_up (av_cons (ev_fz (ev_item (fun _ _ => rfl) (ev_n 9) ev_int)) (av_cons (ev_n 8) av_nil))) kn_nil)))))) (bn_up (bv_nox (bv_one (sv_ret ev_bl)))) bn_nil)
    (bn_up (bv_nox (bv_one (sv_n 4 sc_law.nd (ev_not (ev_n 4)))))))))) (mono_for (mono_seq (mono_set (mono_call (mf__law_bad_word) (mono_pick (mono_app mono_up mono_up)))) (mono_seq (mono_set (mono_call (mf__law_ask) (mono_pick (mono_app mono_up mono_up)))) (mono_seq (mono_if (mono_or2 mono_th (mono_not (mono_b (mono_call (mf__law_very) (mono_pick (mono_app mono_up mono_up)))))) mono_up mono_up) mono_up)))))))))))
    (bn_up (bv_nox (bv_one (sv_ret ev_bl))))))
end
end K02
namespace K02
open PySem PySem.Spec PyProof.Rows L2 TL M
def Box (n : Nat) (b : List D) : Prop := ∃ (z : Int) (g : Bool) (r c : Int), b = [.int z, .bl g, .int r, .int c] ∧ 0 ≤ z ∧ 0 ≤ r ∧ r < 2147483629 ∧ 0 ≤ c ∧ c ≤ n
theorem Box.mono {n m : Nat} {b : List D} (h : Box n b) (hm : n ≤ m) : Box m b := by
  obtain ⟨z, g, r, c, e, h2, h3, h4, h5, h6⟩ := h
  exact ⟨z, g, r, c, e, h2, h3, h4, h5, by omega⟩
theorem take_ok {n : Nat} {b : List D} {m : Int} {Q : RV → List SV → Prop} (hb : Box n b) (hn : n ≤ 1000000000) (h0 : 0 < m) (h1 : m < 1073741824) (h : ∀ v b', Box (n + 1) b' → 0 ≤ v → v < m → Q (.d (.int v)) [.own true b', .d (.int m)]) : wF F__law_take [.own true b, .d (.int m)] Q := by
  obtain ⟨z, g, r, c, rfl, h2, h3, h4, h5, h6⟩ := hb
  unfold F__law_take
  rw [wF_run]
  unfold B__law_take
  have a1 : (r + 15485941 * (c + 1) + 179424719).natAbs < 18446744073709551616 := by omega
  have a2 : ((r + 15485941 * (c + 1) + 179424719) ^ 5 % 2147483647 * 48271 + 104761 * (c + 1)).natAbs < 18446744073709551616 := by
    generalize (r + 15485941 * (c + 1) + 179424719) ^ 5 = t
    omega
  have h6' : c + 1 ≤ ((n + 1 : Nat) : Int) := by omega
  have hm1 : ∀ t : Int, 0 ≤ t % m := fun t => Int.emod_nonneg _ (by omega)
  have hm2 : ∀ t : Int, t % m < m := fun t => Int.emod_lt_of_pos _ h0
  simp [h0, h1, a1, a2]
  split
  · split
    · exact h _ _ ⟨_, _, _, _, rfl, Int.ediv_nonneg h2 (by omega), h3, h4, h5, by omega⟩ (hm1 _) (hm2 _)
    · exact h _ _ ⟨_, _, _, _, rfl, h2, h3, h4, by omega, h6'⟩ (hm1 _) (hm2 _)
  · exact h _ _ ⟨_, _, _, _, rfl, h2, h3, h4, by omega, h6'⟩ (hm1 _) (hm2 _)
theorem box_ok {x : Int} {Q : RV → List SV → Prop} (h : ∀ b, Box 0 b → Q (.own b) [.d (.int x)]) : wF F__law_box [.d (.int x)] Q := by
  unfold F__law_box
  rw [wF_run]
  unfold B__law_box
  simp
  exact h _ ⟨_, _, _, _, rfl, by split <;> omega, by omega, by omega, by omega, by omega⟩
theorem cell_ok {ns : List Int} {k : Nat} (hk : k < 1000) {Q : RV → List SV → Prop} (h : ∀ x, Q (.d (.int x)) [.d (.scr (ns.map .int)), .d (.int k)]) : wF F__law_cell [.d (.scr (ns.map .int)), .d (.int k)] Q := by
  unfold F__law_cell
  rw [wF_run]
  unfold B__law_cell
  simp
  split
  · rename_i hl
    rw [atI_nat (by simpa using hl)]
    simp [h]
  · rw [cutL_to (by omega), ← List.map_take, sumD_lst]
    simp [h]
theorem abcd_at {v : Int} (h0 : 0 ≤ v) (h1 : v < 4) : ∃ c : Nat, atI [97, 98, 99, 100] v = some c ∧ c ∈ [97, 98, 99, 100] := by
  have : v = 0 ∨ v = 1 ∨ v = 2 ∨ v = 3 := by omega
  rcases this with rfl | rfl | rfl | rfl
  · exact ⟨97, by simp, by simp⟩
  · exact ⟨98, by simp, by simp⟩
  · exact ⟨99, by simp, by simp⟩
  · exact ⟨100, by simp, by simp⟩
theorem abcd_v {v : Int} (h0 : 0 ≤ v) (h1 : v < 4) : atI [97, 98, 99, 100] v = some (97 + v.toNat) := by
  have : v = 0 ∨ v = 1 ∨ v = 2 ∨ v = 3 := by omega
  rcases this with rfl | rfl | rfl | rfl <;> simp
theorem sum_signs (cs : List Nat) : ((cs.map fun c => [c]).map (·.length)).sum = cs.length := by
  induction cs with
  | nil => rfl
  | cons c cs ih => simp at ih ⊢; omega
theorem flat_signs (cs : List Nat) : (cs.map fun c => [c]).flatten = cs := by
  induction cs with
  | nil => rfl
  | cons c cs ih => simp at ih ⊢; exact ih
theorem join_signs {cs : List Nat} (h : cs.length ≤ 16777216) : joinD [] [.lst (cs.map fun c => .str [c])] = some (.d (.str cs)) := by
  have e := joinD_lst (cs.map fun c => [c]) (by rw [sum_signs]; exact h)
  rw [flat_signs] at e
  rw [← e, List.map_map]
  rfl
theorem near_ok {n : Nat} {b : List D} {w : List Nat} {m : Nat} {Q : RV → List SV → Prop} (hb : Box n b) (hn : n + 3 ≤ 1000000000) (h0 : 0 < m) (h1 : m ≤ 4) (hw : w.length ≤ 1000) (h : ∀ u b', Box (n + 3) b' → u.length ≤ w.length + 1 → (∀ c ∈ u, c ∈ w ∨ (97 ≤ c ∧ c < 97 + m)) → Q (.d (.str u)) [.own true b', .d (.str w), .d (.int m)]) : wF F__law_near [.own true b, .d (.str w), .d (.int m)] Q := by
  unfold F__law_near
  rw [wF_run]
  unfold B__law_near
  simp
  refine ⟨by omega, take_ok hb (by omega) (by omega) (by omega) fun v b1 hb1 hv0 hv1 => ?_⟩
  simp
  refine take_ok hb1 (by omega) (by omega) (by omega) fun v2 b2 hb2 h20 h21 => ?_
  simp
  refine take_ok hb2 (by omega) (by omega) (by omega) fun u b3 hb3 hu0 hu1 => ?_
  simp
  rw [abcd_v hu0 (by omega)]
  have hc : 97 ≤ 97 + u.toNat ∧ 97 + u.toNat < 97 + m := by omega
  generalize 97 + u.toNat = c at hc
  simp [cutL_to hv0, cutL_from hv0, cutL_from (show 0 ≤ v + 1 by omega), cutL_from (show 0 ≤ v + 2 by omega), cutL_both hv0 (show 0 ≤ v + 1 by omega), cutL_both (show 0 ≤ v + 1 by omega) (show 0 ≤ v + 2 by omega)]
  have hQ : ∀ u, u.length ≤ w.length + 1 → (∀ x ∈ u, x ∈ w ∨ x = c) → Q (.d (.str u)) [.own true b3, .d (.str w), .d (.int m)] := fun u hu hm => h u b3 hb3 hu fun x hx => by
    rcases hm x hx with z | rfl
    · exact .inl z
    · exact .inr hc
  have mt : ∀ {k : Nat} {x : Nat}, x ∈ w.take k → x ∈ w := fun h => List.mem_of_mem_take h
  have md : ∀ {k : Nat} {x : Nat}, x ∈ w.drop k → x ∈ w := fun h => List.mem_of_mem_drop h
  repeat' split
  all_goals and_intros
  all_goals first
    | omega
    | exact hQ _ (by simp; omega) (fun x hx => by
        simp at hx
        first
          | exact .inl hx
          | (rcases hx with hx | hx
             · exact .inl (mt hx)
             · exact .inl (md hx))
          | (rcases hx with hx | hx | hx
             · exact .inl (mt hx)
             · exact .inr hx
             · exact .inl (md hx))
          | (rcases hx with hx | hx | hx | hx
             · exact .inl (mt hx)
             · exact .inl (md (List.mem_of_mem_take hx))
             · exact .inl (md (List.mem_of_mem_take hx))
             · exact .inl (md hx)))
    | exact hQ _ (by simp) (fun x hx => .inl (by simpa using hx))
theorem same_plain {n : Nat} {x : D} {Q : RV → List SV → Prop} (hx : x = .non ∨ (∃ s, x = .str s ∧ s.length ≤ 16777216) ∨ (∃ i, x = .int i) ∨ ∃ b, x = .bl b) (h : Q (.d (.bl true)) [.d x, .d x]) : wF (F__law_same (n + 1)) [.d x, .d x] Q := by
  unfold F__law_same
  rw [wF_run]
  unfold B__law_same
  rcases hx with rfl | ⟨s, rfl, hs⟩ | ⟨i, rfl⟩ | ⟨b, rfl⟩
  · simpa using h
  · simp
    refine ⟨hs, by omega, wC_none (fun x hx => ?_) (by simpa using h) (by simpa using hs)⟩
    obtain ⟨k, hk, rfl⟩ := mem_range_map hx
    simp [cutL_one hk, atI_nat hk]
    exact hs
  · simpa using h
  · simpa using h
theorem same_list {n : Nat} {xs : List D} {Q : RV → List SV → Prop} (hl : xs.length ≤ 16777216) (hx : ∀ x ∈ xs, ∀ Q : RV → List SV → Prop, Q (.d (.bl true)) [.d x, .d x] → wF (F__law_same n) [.d x, .d x] Q) (h : Q (.d (.bl true)) [.d (.lst xs), .d (.lst xs)]) : wF (F__law_same (n + 1)) [.d (.lst xs), .d (.lst xs)] Q := by
  unfold F__law_same
  rw [wF_run]
  unfold B__law_same
  simp
  refine ⟨by omega, wC_none (fun x hx' => ?_) (by simpa using h) (by simpa using hl)⟩
  obtain ⟨k, hk, rfl⟩ := mem_range_map hx'
  simp [atI_nat hk]
  refine hx _ (List.getElem_mem hk) _ ?_
  simp
def Gd : Nat → D → Prop
  | _, .non => True
  | _, .bl _ => True
  | _, .int _ => True
  | _, .str s => s.length ≤ 16777216
  | n + 1, .lst xs => xs.length ≤ 16777216 ∧ ∀ x ∈ xs, Gd n x
  | n + 1, .tup xs => xs.length ≤ 16777216 ∧ ∀ x ∈ xs, Gd n x
  | _, _ => False
theorem same_tup {n : Nat} {xs : List D} {Q : RV → List SV → Prop} (hl : xs.length ≤ 16777216) (hx : ∀ x ∈ xs, ∀ Q : RV → List SV → Prop, Q (.d (.bl true)) [.d x, .d x] → wF (F__law_same n) [.d x, .d x] Q) (h : Q (.d (.bl true)) [.d (.tup xs), .d (.tup xs)]) : wF (F__law_same (n + 1)) [.d (.tup xs), .d (.tup xs)] Q := by
  unfold F__law_same
  rw [wF_run]
  unfold B__law_same
  simp
  refine ⟨by omega, wC_none (fun x hx' => ?_) (by simpa using h) (by simpa using hl)⟩
  obtain ⟨k, hk, rfl⟩ := mem_range_map hx'
  simp [atI_nat hk]
  refine hx _ (List.getElem_mem hk) _ ?_
  simp
theorem same_ok : ∀ {n : Nat} {x : D} {Q : RV → List SV → Prop}, Gd n x → Q (.d (.bl true)) [.d x, .d x] → wF (F__law_same (n + 1)) [.d x, .d x] Q
  | n, .non, Q, h, hq => same_plain (.inl rfl) hq
  | n, .bl b, Q, h, hq => same_plain (.inr (.inr (.inr ⟨b, rfl⟩))) hq
  | n, .int i, Q, h, hq => same_plain (.inr (.inr (.inl ⟨i, rfl⟩))) hq
  | n, .str s, Q, h, hq => same_plain (.inr (.inl ⟨s, rfl, by cases n <;> exact h⟩)) hq
  | n + 1, .lst xs, Q, h, hq => same_list h.1 (fun x hx Q q => same_ok (h.2 x hx) q) hq
  | n + 1, .tup xs, Q, h, hq => same_tup h.1 (fun x hx Q q => same_ok (h.2 x hx) q) hq
  | 0, .lst xs, Q, h, hq => h.elim
  | 0, .tup xs, Q, h, hq => h.elim
  | n, .dct ks xs, Q, h, hq => by cases n <;> exact h.elim
  | n, .scr xs, Q, h, hq => by cases n <;> exact h.elim
  | n, .ins _ _ _, Q, h, hq => by cases n <;> exact h.elim
  | n, .ptr _, Q, h, hq => by cases n <;> exact h.elim
  | n, .exn _ _ _ _, Q, h, hq => by cases n <;> exact h.elim
end K02
namespace K02
open PySem PySem.Spec PyProof.Rows L2 TL M
def Wd (m k : Nat) (u : List Nat) : Prop := u.length ≤ k ∧ ∀ c ∈ u, 97 ≤ c ∧ c < 97 + m
theorem Wd.mono {m m' k k' : Nat} {u : List Nat} (h : Wd m k u) (h1 : m ≤ m') (h2 : k ≤ k') : Wd m' k' u := ⟨by have := h.1; omega, fun c hc => by have := h.2 c hc; omega⟩
theorem Wd.take {m k : Nat} {u : List Nat} (h : Wd m k u) (n : Nat) : Wd m (min n k) (u.take n) := ⟨by have := h.1; simp; omega, fun c hc => h.2 c (List.mem_of_mem_take hc)⟩
theorem Wd.nil {m k : Nat} : Wd m k [] := ⟨by simp, fun c hc => by cases hc⟩
theorem Wd.app {m k j : Nat} {u v : List Nat} (h : Wd m k u) (h' : Wd m j v) : Wd m (k + j) (u ++ v) := ⟨by have := h.1; have := h'.1; simp; omega, fun c hc => by
  rcases List.mem_append.mp hc with hc | hc
  · exact h.2 c hc
  · exact h'.2 c hc⟩
theorem drawn_ok {n : Nat} {b : List D} {m k : Nat} {Q : RV → List SV → Prop} (hb : Box n b) (hn : n + 1000 ≤ 1000000000) (h0 : 0 < m) (h1 : m ≤ 4) (hk : k ≤ 900) (h : ∀ w b', Box (n + 1000) b' → Wd m k w → Q (.d (.str w)) [.own true b', .d (.int m), .d (.int k)]) : wF F__law_drawn [.own true b, .d (.int m), .d (.int k)] Q := by
  unfold F__law_drawn
  rw [wF_run]
  unfold B__law_drawn
  simp
  refine take_ok hb (by omega) (by omega) (by omega) fun v b1 hb1 hv0 hv1 => ?_
  simp [noOwn, wipeS, restS]
  refine ⟨by omega, wC_inv (fun i acc ρ => ∃ b2 cs, Box (n + 1 + i) b2 ∧ acc = cs.map (fun c => D.str [c]) ∧ cs.length = i ∧ (∀ c ∈ cs, 97 ≤ c ∧ c < 97 + m) ∧ ρ = [some (.own true b2), some (.d (.int m)), some (.d (.int k)), none]) (k := 0) ⟨b1, [], hb1, rfl, rfl, fun c hc => (by cases hc), rfl⟩ (fun i x acc ρ hx hP => ?_) fun acc ρ hP => ?_⟩
  · obtain ⟨b2, cs, hb2, rfl, hl, hcs, rfl⟩ := hP
    obtain ⟨hi, rfl⟩ := range_at hx
    simp
    refine take_ok hb2 (by omega) (by omega) (by omega) fun u b3 hb3 hu0 hu1 => ?_
    simp
    rw [abcd_v hu0 (by omega)]
    simp [wipeS]
    refine ⟨by omega, b3, hb3.mono (by omega), cs ++ [97 + u.toNat], by simp, by simp at hl; simp; omega, fun c hc => ?_, rfl⟩
    rcases List.mem_append.mp hc with hc | hc
    · exact hcs c hc
    · simp at hc; omega
  · obtain ⟨b2, cs, hb2, rfl, hl, hcs, rfl⟩ := hP
    simp at hl
    simp
    rw [join_signs (by omega)]
    simp
    exact h cs b2 (hb2.mono (by simp; omega)) ⟨by omega, hcs⟩
theorem power_ok {n : Nat} {b : List D} {m k : Nat} {Q : RV → List SV → Prop} (hb : Box n b) (hn : n + 1000 ≤ 1000000000) (h0 : 0 < m) (h1 : m ≤ 4) (hk : k ≤ 900) (h : ∀ w b', Box (n + 1000) b' → Wd m k w → Q (.d (.str w)) [.own true b', .d (.int m), .d (.int k)]) : wF F__law_power [.own true b, .d (.int m), .d (.int k)] Q := by
  unfold F__law_power
  rw [wF_run]
  unfold B__law_power
  simp
  refine take_ok hb (by omega) (by omega) (by omega) fun v b1 hb1 hv0 hv1 => ?_
  simp [noOwn, wipeS, restS]
  refine ⟨by omega, wC_inv (fun i acc ρ => ∃ b2 cs, Box (n + 1 + i) b2 ∧ acc = cs.map (fun c => D.str [c]) ∧ cs.length = i ∧ (∀ c ∈ cs, 97 ≤ c ∧ c < 97 + m) ∧ ρ = [some (.own true b2), some (.d (.int m)), some (.d (.int k)), none, none, none]) (k := 0) ⟨b1, [], hb1, rfl, rfl, fun c hc => (by cases hc), rfl⟩ (fun i x acc ρ hx hP => ?_) fun acc ρ hP => ?_⟩
  · obtain ⟨b2, cs, hb2, rfl, hl, hcs, rfl⟩ := hP
    obtain ⟨hi, rfl⟩ := range_at hx
    simp
    refine take_ok hb2 (by omega) (by omega) (by omega) fun u b3 hb3 hu0 hu1 => ?_
    simp
    rw [abcd_v hu0 (by omega)]
    simp [wipeS]
    refine ⟨by omega, b3, hb3.mono (by omega), cs ++ [97 + u.toNat], by simp, by simp at hl; simp; omega, fun c hc => ?_, rfl⟩
    rcases List.mem_append.mp hc with hc | hc
    · exact hcs c hc
    · simp at hc; omega
  · obtain ⟨b2, cs, hb2, rfl, hl, hcs, rfl⟩ := hP
    simp at hl
    simp
    rw [join_signs (by omega)]
    simp
    have hbn : Box (n + 6) b2 := hb2.mono (by simp; omega)
    refine take_ok hbn (by omega) (by omega) (by omega) fun u b3 hb3 hu0 hu1 => ?_
    simp
    obtain ⟨v, rfl⟩ := Int.eq_ofNat_of_zero_le hv0
    obtain ⟨u, rfl⟩ := Int.eq_ofNat_of_zero_le hu0
    have hcl : cs.length = v + 1 := by omega
    have hq : (u : Int) / (cs.length : Int) = ((u / cs.length : Nat) : Int) := by simp
    have hu9 : u / cs.length ≤ 900 := by
      have := Nat.div_le_self u cs.length
      omega
    have hmul : (u / cs.length + 1) * cs.length ≤ 5000 := by
      have h5 : cs.length ≤ 4 := by omega
      have := Nat.mul_le_mul (show u / cs.length + 1 ≤ 901 by omega) h5
      omega
    rw [hq]
    rw [cutL_to (by omega)]
    have e1 : ((u / cs.length : Nat) : Int) + 1 = ((u / cs.length + 1 : Nat) : Int) := by simp
    rw [e1]
    simp only [Int.toNat_natCast]
    generalize u / cs.length = qq at *
    refine ⟨by omega, by omega, ⟨by omega, by omega, by rw [Nat.mul_comm]; omega⟩, by omega, ?_⟩
    refine h _ b3 (hb3.mono (by omega)) ⟨by simp; omega, fun c hc => ?_⟩
    have hc := List.mem_of_mem_take hc
    rw [List.mem_flatten] at hc
    obtain ⟨l, hl2, hc⟩ := hc
    rw [List.mem_replicate] at hl2
    rw [hl2.2] at hc
    exact hcs c hc
theorem ab_v {v : Int} (h0 : 0 ≤ v) (h1 : v < 2) : atI [97, 98] v = some (97 + v.toNat) := by
  have : v = 0 ∨ v = 1 := by omega
  rcases this with rfl | rfl <;> simp
theorem rotation_ok {n : Nat} {b : List D} {k : Nat} {Q : RV → List SV → Prop} (hb : Box n b) (hn : n + 1000 ≤ 1000000000) (hk : k ≤ 900) (h : ∀ w b', Box (n + 1000) b' → Wd 2 k w → Q (.d (.str w)) [.own true b', .d (.int k)]) : wF F__law_rotation_word [.own true b, .d (.int k)] Q := by
  unfold F__law_rotation_word
  rw [wF_run]
  unfold B__law_rotation_word
  simp
  refine take_ok hb (by omega) (by omega) (by omega) fun v b1 hb1 hv0 hv1 => ?_
  simp
  refine take_ok hb1 (by omega) (by omega) (by omega) fun p b2 hb2 hp0 hp1 => ?_
  simp
  refine take_ok hb2 (by omega) (by omega) (by omega) fun c b3 hb3 hc0 hc1 => ?_
  simp
  refine take_ok hb3 (by omega) (by omega) (by omega) fun s b4 hb4 hs0 hs1 => ?_
  simp [noOwn, wipeS, restS]
  refine ⟨by omega, wC_map (fun _ => true) (fun x => .str [match x with | .int k => if (p * k + c) / (1 + v) < (p * (k + 1) + c) / (1 + v) then 98 else 97 | _ => 97]) (by simp; omega) (fun x hx => ?_) ?_⟩
  · obtain ⟨j, hj, rfl⟩ := mem_range_map hx
    have hne : 0 < 1 + v := by omega
    simp [hne]
    split
    · rename_i hlt
      rw [ab_v (by decide) (by decide)]; simp
      exact ⟨.inl ⟨by omega, by omega⟩, by omega, .inl ⟨by omega, by omega⟩, by omega, hlt⟩
    · rename_i hlt
      rw [ab_v (by decide) (by decide)]; simp
      exact ⟨.inl ⟨by omega, by omega⟩, by omega, .inl ⟨by omega, by omega⟩, by omega, by omega⟩
  · rw [filter_true, List.map_map]
    have e : (fun x => D.str [match x with | .int k => if (p * k + c) / (1 + v) < (p * (k + 1) + c) / (1 + v) then 98 else 97 | _ => 97]) ∘ (fun (j : Nat) => D.int (j : Int)) = (fun c => D.str [c]) ∘ fun (j : Nat) => if (p * (j : Int) + c) / (1 + v) < (p * ((j : Int) + 1) + c) / (1 + v) then 98 else 97 := by
      funext j; rfl
    rw [e, ← List.map_map]
    obtain ⟨cs, ec⟩ : ∃ cs, cs = (List.range s.toNat).map fun (j : Nat) => if (p * (j : Int) + c) / (1 + v) < (p * ((j : Int) + 1) + c) / (1 + v) then 98 else 97 := ⟨_, rfl⟩
    have hw : Wd 2 k cs := ⟨by rw [ec]; simp; omega, fun c hc => by
      rw [ec] at hc
      obtain ⟨j, hj, rfl⟩ := List.mem_map.mp hc
      split <;> omega⟩
    rw [← ec]
    clear ec e
    simp
    rw [join_signs (by have := hw.1; omega)]
    simp
    exact h _ b4 (hb4.mono (by omega)) hw
def cntb (t : Nat) : Nat := ((List.range 40).filter fun i => decide (t / 2 ^ i % 2 = 1)).length
theorem thue_ok {a k : Nat} {Q : RV → List SV → Prop} (ha : a ≤ 1000) (hk : k ≤ 900) (h : ∀ w, Wd 2 k w → Q (.d (.str w)) [.d (.int a), .d (.int k)]) : wF F__law_thue [.d (.int a), .d (.int k)] Q := by
  unfold F__law_thue
  rw [wF_run]
  unfold B__law_thue
  simp
  have e0 : ((a : Int) + k).toNat - a = k := by omega
  rw [e0]
  refine wC_map (fun _ => true) (fun x => .str [match x with | .int t => 97 + cntb t.toNat % 2 | _ => 97]) (by simp; omega) (fun x hx => ?_) ?_
  · obtain ⟨j, hj, rfl⟩ := List.mem_map.mp hx
    simp
    have e1 : ((a : Int) + j) = ((a + j : Nat) : Int) := by simp
    rw [e1]
    have e2 : ((a : Int) + j).toNat = a + j := by omega
    generalize a + j = t at *
    refine wC_map (fun x => match x with | .int i => decide (t / 2 ^ i.toNat % 2 = 1) | _ => false) (fun _ => .int 1) (by simp) (fun x hx => ?_) ?_
    · obtain ⟨i, hi, rfl⟩ := List.mem_map.mp hx
      simp
      have eq1 : ((t : Int) / 2 ^ i) = ((t / 2 ^ i : Nat) : Int) := by simp
      rw [eq1, andD_one]
      rcases Nat.mod_two_eq_zero_or_one (t / 2 ^ i) with hq | hq <;> simp [hq, truD]
    · have ec : (List.map (fun x => D.int 1) (List.filter (fun x => match x with | D.int i => decide (t / 2 ^ i.toNat % 2 = 1) | x => false) (List.map (fun (k : Nat) => D.int (k : Int)) (List.range 40)))) = List.replicate (cntb t) (.int 1) := by
        rw [List.filter_map, List.map_map]
        unfold cntb
        rw [List.eq_replicate_iff]
        constructor
        · simp
          rfl
        · intro b hb
          obtain ⟨x, _, rfl⟩ := List.mem_map.mp hb
          rfl
      rw [ec]
      have hc : cntb t ≤ 40 := by
        unfold cntb
        have := List.length_filter_le (fun i => decide (t / 2 ^ i % 2 = 1)) (List.range 40)
        simpa using this
      simp only [Int.toNat_natCast]
      generalize cntb t = cc at *
      simp
      have h2 : cc % 2 = 0 ∨ cc % 2 = 1 := by omega
      have ev : (((cc % 2 : Nat) : Int)) = ((cc : Int) % 2) := by simp
      rcases h2 with h2 | h2
      · rw [show ((cc : Int) % 2) = 0 by omega, h2]; simp
      · rw [show ((cc : Int) % 2) = 1 by omega, h2]; simp
  · rw [filter_true, List.map_map]
    have e : (fun x => D.str [match x with | .int t => 97 + cntb t.toNat % 2 | _ => 97]) ∘ (fun (j : Nat) => D.int ((a : Int) + (j : Int))) = (fun c => D.str [c]) ∘ fun (j : Nat) => 97 + cntb ((a : Int) + (j : Int)).toNat % 2 := by
      funext j; rfl
    rw [e, ← List.map_map]
    obtain ⟨cs, ec⟩ : ∃ cs, cs = (List.range k).map fun (j : Nat) => 97 + cntb ((a : Int) + (j : Int)).toNat % 2 := ⟨_, rfl⟩
    have hw : Wd 2 k cs := ⟨by rw [ec]; simp, fun c hc => by
      rw [ec] at hc
      obtain ⟨j, hj, rfl⟩ := List.mem_map.mp hc
      omega⟩
    rw [← ec]
    clear ec e
    simp
    rw [join_signs (by have := hw.1; omega)]
    simp
    exact h _ hw
end K02
namespace K02
open PySem PySem.Spec PyProof.Rows L2 TL M
theorem atI_memD {xs : List D} {v : Int} (h0 : 0 ≤ v) (h1 : v < xs.length) : ∃ x, atI xs v = some x ∧ x ∈ xs := by
  obtain ⟨k, rfl⟩ := Int.eq_ofNat_of_zero_le h0
  have hk : k < xs.length := by omega
  exact ⟨xs[k], atI_nat hk, List.getElem_mem hk⟩
theorem Wd.rev {m k : Nat} {u : List Nat} (h : Wd m k u) : Wd m k u.reverse := ⟨by have := h.1; simp; omega, fun c hc => h.2 c (List.mem_reverse.mp hc)⟩
theorem Wd.drop {m k : Nat} {u : List Nat} (h : Wd m k u) (n : Nat) : Wd m k (u.drop n) := ⟨by have := h.1; simp; omega, fun c hc => h.2 c (List.mem_of_mem_drop hc)⟩
theorem mirror_ok {n : Nat} {b : List D} {m k : Nat} {Q : RV → List SV → Prop} (hb : Box n b) (hn : n + 2000 ≤ 1000000000) (h0 : 0 < m) (h1 : m ≤ 4) (hk : k ≤ 900) (h : ∀ w b', Box (n + 1001) b' → Wd m k w → Q (.d (.str w)) [.own true b', .d (.int m), .d (.int k)]) : wF F__law_mirror [.own true b, .d (.int m), .d (.int k)] Q := by
  unfold F__law_mirror
  rw [wF_run]
  unfold B__law_mirror
  simp
  have e2 : ((k : Int) / 2) = ((k / 2 : Nat) : Int) := by simp
  rw [e2]
  refine drawn_ok hb (by omega) h0 h1 (by omega) fun w b1 hb1 hw => ?_
  have hl := hw.1
  simp
  refine take_ok hb1 (by omega) (by omega) (by omega) fun v b2 hb2 hv0 hv1 => ?_
  simp
  split
  · refine ⟨by omega, by omega, h _ b2 (hb2.mono (by omega)) ((hw.app hw.rev).mono (by omega) (by omega))⟩
  · rw [cutL_from (by omega)]
    simp
    have hz : Wd m k (w ++ w.reverse.drop 1) := (Wd.app (k := k / 2) (j := k / 2) hw (Wd.drop (Wd.rev hw) 1)).mono (by omega) (by omega)
    have hz2 := h _ b2 (hb2.mono (by omega)) hz
    simp at hz2
    exact ⟨by omega, by omega, hz2⟩
theorem near_wd {n : Nat} {b : List D} {w : List Nat} {m j k : Nat} {Q : RV → List SV → Prop} (hb : Box n b) (hn : n + 3 ≤ 1000000000) (h0 : 0 < m) (h1 : m ≤ j) (h4 : j ≤ 4) (hw : Wd j k w) (hk : k ≤ 1000) (h : ∀ u b', Box (n + 3) b' → Wd j (k + 1) u → Q (.d (.str u)) [.own true b', .d (.str w), .d (.int m)]) : wF F__law_near [.own true b, .d (.str w), .d (.int m)] Q := by
  refine near_ok hb hn h0 (by omega) (by have := hw.1; omega) fun u b' hb' hl hc => h u b' hb' ⟨by have := hw.1; omega, fun c h => ?_⟩
  rcases hc c h with z | z
  · exact hw.2 c z
  · omega
theorem word_ok {n : Nat} {b : List D} {m k : Nat} {Q : RV → List SV → Prop} (hb : Box n b) (hn : n + 5000 ≤ 1000000000) (h0 : 0 < m) (h1 : m ≤ 4) (hk0 : 0 < k) (hk : k ≤ 900) (h : ∀ w b', Box (n + 2000) b' → Wd (max m 2) k w → (m = 1 → True) → Q (.d (.str w)) [.own true b', .d (.int m), .d (.int k)]) : wF F__law_word [.own true b, .d (.int m), .d (.int k)] Q := by
  unfold F__law_word
  rw [wF_run]
  unfold B__law_word
  simp
  refine take_ok hb (by omega) (by omega) (by omega) fun v b1 hb1 hv0 hv1 => ?_
  try simp
  split
  · exact drawn_ok hb1 (by omega) h0 h1 hk fun w b2 hb2 hw => by simp; exact h w b2 (hb2.mono (by omega)) (hw.mono (by omega) (by omega)) (fun _ => trivial)
  try simp
  split
  · exact power_ok hb1 (by omega) h0 h1 hk fun w b2 hb2 hw => by simp; exact h w b2 (hb2.mono (by omega)) (hw.mono (by omega) (by omega)) (fun _ => trivial)
  try simp
  split
  · split
    · exact rotation_ok hb1 (by omega) hk fun w b2 hb2 hw => by simp; exact h w b2 (hb2.mono (by omega)) (hw.mono (by omega) (by omega)) (fun _ => trivial)
    · exact power_ok (m := 1) hb1 (by omega) (by omega) (by omega) hk fun w b2 hb2 hw => by simp; exact h w b2 (hb2.mono (by omega)) (hw.mono (by omega) (by omega)) (fun _ => trivial)
  try simp
  split
  · split
    · refine take_ok hb1 (by omega) (by omega) (by omega) fun a b2 hb2 ha0 ha1 => ?_
      simp
      refine take_ok hb2 (by omega) (by omega) (by omega) fun c b3 hb3 hc0 hc1 => ?_
      simp
      obtain ⟨a, rfl⟩ := Int.eq_ofNat_of_zero_le ha0
      obtain ⟨c, rfl⟩ := Int.eq_ofNat_of_zero_le hc0
      exact thue_ok (by omega) (by omega) fun w hw => by simp; exact h w b3 (hb3.mono (by omega)) (hw.mono (by omega) (by omega)) (fun _ => trivial)
    · exact h [] b1 (hb1.mono (by omega)) Wd.nil (fun _ => trivial)
  try simp
  split
  · exact mirror_ok hb1 (by omega) h0 h1 hk fun w b2 hb2 hw => by simp; exact h w b2 (hb2.mono (by omega)) (hw.mono (by omega) (by omega)) (fun _ => trivial)
  try simp
  split
  · have e1 : ((k : Int) - 1) = ((k - 1 : Nat) : Int) := by omega
    rw [e1]
    refine power_ok hb1 (by omega) h0 h1 (by omega) fun w b2 hb2 hw => ?_
    simp
    refine near_wd (j := max m 2) hb2 (by omega) h0 (by omega) (by omega) (hw.mono (by omega) (Nat.le_refl _)) (by omega) fun u b3 hb3 hu => ?_
    simp
    rw [cutL_to (by omega)]
    exact ⟨by have := hu.1; omega, h (u.take k) b3 (hb3.mono (by omega)) ((hu.take k).mono (by omega) (by omega)) (fun _ => trivial)⟩
  have fin : ∀ (x : D), x ∈ [D.str [], D.str [97], D.str [97, 97], D.str [97, 97, 97], D.str [98], D.str [97, 98], D.str [98, 97], D.str [97, 97, 98], D.str [97, 98, 97, 97, 98, 97, 98, 97]] → ∃ w, x = .str w ∧ Wd 2 8 w := fun x hx => by
    simp at hx
    rcases hx with rfl | rfl | rfl | rfl | rfl | rfl | rfl | rfl | rfl <;> exact ⟨_, rfl, by simp, by simp⟩
  have hlen : [D.str [], D.str [97], D.str [97, 97], D.str [97, 97, 97], D.str [98], D.str [97, 98], D.str [98, 97], D.str [97, 97, 98], D.str [97, 98, 97, 97, 98, 97, 98, 97]].length = 9 := rfl
  generalize [D.str [], D.str [97], D.str [97, 97], D.str [97, 97, 97], D.str [98], D.str [97, 98], D.str [98, 97], D.str [97, 97, 98], D.str [97, 98, 97, 97, 98, 97, 98, 97]] = L at *
  have hkk : ∀ w, Wd 2 8 w → Wd (max m 2) k (w.take k) := fun w hw => (hw.take k).mono (by omega) (by omega)
  split
  · refine take_ok hb1 (by omega) (by omega) (by omega) fun j b2 hb2 hj0 hj1 => ?_
    obtain ⟨x, ex, hx⟩ := atI_memD (xs := L) hj0 (by omega)
    obtain ⟨w, rfl, hw⟩ := fin x hx
    simp [ex]
    rw [cutL_to (by omega)]
    exact ⟨by have := hw.1; omega, h _ b2 (hb2.mono (by omega)) (hkk w hw) (fun _ => trivial)⟩
  · refine take_ok hb1 (by omega) (by omega) (by omega) fun j b2 hb2 hj0 hj1 => ?_
    obtain ⟨x, ex, hx⟩ := atI_memD (xs := L) hj0 (by omega)
    obtain ⟨w, rfl, hw⟩ := fin x hx
    simp [ex]
    rw [cutL_to (by omega)]
    exact ⟨by have := hw.1; omega, h _ b2 (hb2.mono (by omega)) (hkk w hw) (fun _ => trivial)⟩
theorem gd_str {m : Nat} {s : List Nat} (h : s.length ≤ 16777216) : Gd m (.str s) := by cases m <;> exact h
theorem gd_int {m : Nat} {i : Int} : Gd m (.int i) := by cases m <;> trivial
theorem gd_bl {m : Nat} {i : Bool} : Gd m (.bl i) := by cases m <;> trivial
theorem gd_non {m : Nat} : Gd m .non := by cases m <;> trivial
theorem gd_two {m : Nat} {x y : D} (hx : Gd m x) (hy : Gd m y) : Gd (m + 1) (.lst [x, y]) := ⟨by simp, fun z hz => by
  simp at hz
  rcases hz with rfl | rfl
  · exact hx
  · exact hy⟩
theorem gd_tup {m : Nat} {xs : List D} (hl : xs.length ≤ 100) (h : ∀ x ∈ xs, Gd m x) : Gd (m + 1) (.tup xs) := ⟨by omega, h⟩
theorem wS_cut {f g : Sx} {ρ : Sl} {Q : Fl → Sl → Prop} (P : Sl → Prop) (h1 : wS f ρ fun fl ρ' => fl = .nx ∧ P ρ') (h2 : ∀ ρ', P ρ' → wS g ρ' Q) : wS (sSeq f g) ρ Q := by
  rw [wS_Seq]
  refine wS.imp h1 fun fl ρ' q => ?_
  obtain ⟨rfl, q⟩ := q
  exact h2 ρ' q
end K02
namespace K02
open PySem PySem.Spec PyProof.Rows L2 TL M
abbrev QN := RV → List SV → Ck → Prop
abbrev EN := Er → List SV → Ck → Prop
def isab (c : Nat) : Bool := decide (97 ≤ c ∧ c < 101)
def okS : D → Bool
  | .str s => decide (s.length ≤ 100000)
  | _ => true
def wD (k : Nat) : D → Option (List Nat)
  | .str s => if s.length ≤ k ∧ s.all isab = true then some s else none
  | _ => none
theorem letters_ok {s : List Nat} {k : Nat} (hs : s.length ≤ 100000) {Q : RV → List SV → Prop} (h : Q (.d (.bl (decide (s.length ≤ k ∧ s.all isab = true)))) [.d (.str s), .d (.int 4), .d (.int k)]) : wF F_is_letters [.d (.str s), .d (.int 4), .d (.int k)] Q := by
  unfold F_is_letters
  rw [wF_run]
  unfold B_is_letters
  by_cases hl : s.length ≤ k
  · have e0 : ((k : Int) < s.length) = False := eq_false (by omega)
    simp [e0, hl] at h ⊢
    refine ⟨by omega, wC_map (fun _ => true) (fun x => .bl (match x with | .str [c] => isab c | _ => false)) (by simp; omega) (fun x hx => ?_) ?_⟩
    · obtain ⟨c, hc, rfl⟩ := List.mem_map.mp hx
      simp [cutL_to (show (0 : Int) ≤ 4 by decide)]
      rw [Bool.eq_iff_iff]
      simp [isab]
      omega
    · rw [filter_true, List.map_map]
      have e : (fun x => D.bl (match x with | .str [c] => isab c | _ => false)) ∘ (fun c => D.str [c]) = D.bl ∘ isab := by
        funext c; rfl
      rw [e, ← List.map_map]
      simp
      rw [allD_comp]
      simp
      have e2 : (s.all isab) = decide (∀ x ∈ s, isab x = true) := by
        rw [Bool.eq_iff_iff]
        simp
      rw [e2]
      exact h
  · have e0 : ((k : Int) < s.length) = True := eq_true (by omega)
    simp [e0, hl] at h ⊢
    exact ⟨by omega, h⟩
theorem letters_any {x : D} {k : Nat} (hx : (tyD x).isSome = true) (ho : okS x = true) {Q : RV → List SV → Prop} (h : Q (.d (.bl (wD k x).isSome)) [.d x, .d (.int 4), .d (.int k)]) : wF F_is_letters [.d x, .d (.int 4), .d (.int k)] Q := by
  by_cases hs : ∃ s, x = .str s
  · obtain ⟨s, rfl⟩ := hs
    refine letters_ok (by simpa [okS] using ho) ?_
    have e : (wD k (.str s)).isSome = decide (s.length ≤ k ∧ s.all isab = true) := by
      show (if s.length ≤ k ∧ s.all isab = true then some s else none).isSome = _
      by_cases hc : s.length ≤ k ∧ s.all isab = true
      · rw [if_pos hc, decide_eq_true hc]; rfl
      · rw [if_neg hc, decide_eq_false hc]; rfl
    rw [← e]
    exact h
  · have hn : wD k x = none := by
      cases x <;> first | rfl | exact absurd ⟨_, rfl⟩ hs
    rw [hn] at h
    unfold F_is_letters
    rw [wF_run]
    unfold B_is_letters
    cases x <;> first | (cases hx; done) | exact absurd ⟨_, rfl⟩ hs | (simp; exact h)
theorem check_word_ok {x : D} {k : Nat} {κ : Ck} {Q : QN} {E : EN} (hx : (tyD (fz κ x)).isSome = true) (ho : okS (fz κ x) = true) (h1 : ∀ s, wD k (fz κ x) = some s → Q (.d .non) [.d x, .d (.int 4), .d (.int k)] κ) (h2 : wD k (fz κ x) = none → E ⟨"InvalidWord", ["given"], [x]⟩ [.d x, .d (.int 4), .d (.int k)] κ) : wN F_check_word [.d x, .d (.int 4), .d (.int k)] κ Q E := by
  unfold F_check_word
  rw [wN_run]
  unfold B_check_word
  simp
  refine letters_any hx ho ?_
  cases e : wD k (fz κ x) with
  | none =>
    simp
    exact h2 e
  | some s =>
    simp
    exact h1 s e
def okW (x : D) : Prop := (tyD x).isSome = true ∧ okS x = true
theorem fz_str_of {κ : Ck} {x : D} {s : List Nat} (h : fz κ x = .str s) : x = .str s := by
  cases x with
  | ptr v =>
    cases v with
    | ref p =>
      rw [fz_ptr] at h
      split at h <;> cases h
    | _ => rw [fz] at h <;> first | cases h | (intro _ z; cases z)
  | str t => exact h
  | lst xs => rw [fz_lst] at h; cases h
  | tup xs => rw [fz_tup] at h; cases h
  | scr xs => rw [fz_scr] at h; cases h
  | ins a b c => rw [fz_ins] at h; cases h
  | exn a b c d => rw [fz_exn] at h; cases h
  | dct a b => rw [fz_dct] at h; cases h
  | non => cases h
  | bl b => cases h
  | int i => cases h
theorem fz_tup_of {κ : Ck} {x : D} {ys : List D} (h : fz κ x = .tup ys) : ∃ xs, x = .tup xs ∧ fzs κ xs = ys := by
  cases x with
  | ptr v =>
    cases v with
    | ref p =>
      rw [fz_ptr] at h
      split at h <;> cases h
    | _ => rw [fz] at h <;> first | cases h | (intro _ z; cases z)
  | str t => cases h
  | lst xs => rw [fz_lst] at h; cases h
  | tup xs => rw [fz_tup] at h; cases h; exact ⟨xs, rfl, rfl⟩
  | scr xs => rw [fz_scr] at h; cases h
  | ins a b c => rw [fz_ins] at h; cases h
  | exn a b c d => rw [fz_exn] at h; cases h
  | dct a b => rw [fz_dct] at h; cases h
  | non => cases h
  | bl b => cases h
  | int i => cases h
theorem wD_of {κ : Ck} {x : D} {k : Nat} {s : List Nat} (h : wD k (fz κ x) = some s) : x = .str s ∧ s.length ≤ k ∧ s.all isab = true := by
  unfold wD at h
  split at h
  · rename_i t e
    split at h
    · rename_i hc
      cases h
      exact ⟨fz_str_of e, hc.1, hc.2⟩
    · cases h
  · cases h
theorem okW_a : okW (.str [97]) := ⟨rfl, rfl⟩
theorem okW_non : okW .non := ⟨rfl, rfl⟩
theorem isab_of {c : Nat} (h : 97 ≤ c ∧ c < 101) : isab c = true := by unfold isab; exact decide_eq_true h
theorem isab_iff {c : Nat} : isab c = true ↔ 97 ≤ c ∧ c < 101 := by unfold isab; exact decide_eq_true_iff
theorem atI_m1 {α : Type} {l : List α} (h : 0 < l.length) : atI l (-1) = some (l[l.length - 1]) := by
  unfold atI ixN
  rw [if_neg (by omega)]
  have e : ((-1 : Int) + l.length).toNat = l.length - 1 := by omega
  rw [if_pos (by omega)]
  simp only [e, Option.bind_some]
  exact List.getElem?_eq_getElem (by omega)
end K02
namespace K02
open PySem PySem.Spec PyProof.Rows L2 TL M
inductive Pl : D → Prop
  | non : Pl .non
  | int (i : Int) : Pl (.int i)
  | bl (b : Bool) : Pl (.bl b)
  | str (s : List Nat) (h : s.length ≤ 100000) : Pl (.str s)
  | tup (xs : List D) (h : nps xs = true) (h2 : xs.length ≤ 100) (h3 : ∀ x ∈ xs, Gd 3 x) : Pl (.tup xs)
inductive Bv (κ : Ck) : D → Prop
  | pl {x : D} (h : Pl x) : Bv κ x
  | lst (p : Addr) (xs : List D) (h : lkC κ p = some (.lst xs)) (h2 : xs.length < 100) : Bv κ (.ptr (.ref p))
  | dct (p : Addr) (h : lkC κ p = some (.dct [])) : Bv κ (.ptr (.ref p))
theorem Pl.np {x : D} (h : Pl x) : np x = true := by
  cases h with
  | tup xs h => rw [np_tup]; exact h
  | _ => rfl
theorem Pl.gd {x : D} (h : Pl x) : Gd 4 x := by
  cases h with
  | str s h => show s.length ≤ 16777216; omega
  | tup xs h h2 h3 => exact ⟨by omega, h3⟩
  | _ => trivial
theorem atI_last {α : Type} {l : List α} {x : α} : atI (l ++ [x]) (-1) = some x := by
  rw [atI_m1 (by simp)]
  simp
theorem very_ok {x : D} {κ : Ck} {Q : QN} {E : EN} (hx : Bv κ x) (h : ∀ κ', (fz κ' x = fz κ x ∨ (∃ xs, fz κ' x = .lst xs) ∨ ∃ ks xs, fz κ' x = .dct ks xs) → Q (.d (.bl true)) [.d x, .d x] κ') : wN F__law_very [.d x, .d x] κ Q E := by
  unfold F__law_very
  rw [wN_run]
  unfold B__law_very
  cases hx with
  | pl hp =>
    have e := fz_np (κ := κ) x hp.np
    have hs : ∀ Q : RV → List SV → Prop, Q (.d (.bl true)) [.d x, .d x] → wF (F__law_same 5) [.d x, .d x] Q := fun Q => same_ok hp.gd
    have h := h κ (.inl rfl)
    have hn := hp.np
    cases hp with
    | tup xs h5 h6 h7 =>
      simp [fzs_np xs h5]
      refine hs _ ?_
      simp [h]
    | _ =>
      simp
      refine hs _ ?_
      simp [h]
  | lst p xs hl hn =>
    simp [fz_cell hl]
    refine ⟨⟨xs, hl⟩, xs, hl, _, ⟨by omega, rfl⟩, ?_⟩
    have e := fz_cell (lkC_set_self (c := .lst (xs ++ [.str [103, 114, 111, 119, 110]])) hl)
    have h := h (setC κ p (.lst (xs ++ [.str [103, 114, 111, 119, 110]]))) (.inr (.inl ⟨_, e⟩))
    generalize setC κ p (.lst (xs ++ [.str [103, 114, 111, 119, 110]])) = κ' at *
    simp [e, atI_last]
    exact h
  | dct p hl =>
    simp [fz_cellD hl]
    refine ⟨[], hl, by simp, ?_⟩
    have e := fz_cellD (lkC_set_self (c := .dct (dput [] (Sum.inr { cps := #[103, 114, 111, 119, 110] }) (D.int 1))) hl)
    have h := h (setC κ p (.dct (dput [] (Sum.inr { cps := #[103, 114, 111, 119, 110] }) (D.int 1)))) (.inr (.inr ⟨_, _, e⟩))
    generalize setC κ p (.dct (dput [] (Sum.inr { cps := #[103, 114, 111, 119, 110] }) (D.int 1))) = κ' at *
    simp [e]
    exact h
end K02
namespace K02
open PySem PySem.Spec PyProof.Rows L2 TL M
theorem atI_mem {α : Type} {l : List α} {v : Int} (h0 : 0 ≤ v) (h1 : v < l.length) : ∃ x, atI l v = some x ∧ x ∈ l := ⟨_, atI_int h0 h1, List.getElem_mem _⟩
def BadW (d : D) : Prop := okW d ∧ ∀ k, k ≤ 200 → wD k d = none
theorem badW_str {s : List Nat} (hs : s.length ≤ 100000) (h : (decide (s.length ≤ 200) && s.all isab) = false) : BadW (.str s) := ⟨⟨rfl, by simp [okS]; omega⟩, fun k hk => by
  show (if s.length ≤ k ∧ s.all isab = true then some s else none) = none
  rw [if_neg]
  rintro ⟨a, b⟩
  rw [b] at h
  simp at h
  omega⟩
theorem badW_tup {xs : List D} : BadW (.tup xs) := ⟨⟨rfl, rfl⟩, fun k hk => rfl⟩
theorem badW_lst {xs : List D} : BadW (.lst xs) := ⟨⟨rfl, rfl⟩, fun k hk => rfl⟩
theorem badW_dct {ks : List L2.Key} {xs : List D} : BadW (.dct ks xs) := ⟨⟨rfl, rfl⟩, fun k hk => rfl⟩
theorem badW_non : BadW .non := ⟨⟨rfl, rfl⟩, fun k hk => rfl⟩
theorem badW_int {i : Int} : BadW (.int i) := ⟨⟨rfl, rfl⟩, fun k hk => rfl⟩
theorem badW_bl {i : Bool} : BadW (.bl i) := ⟨⟨rfl, rfl⟩, fun k hk => rfl⟩
def Bad (P : D → Prop) (κ : Ck) (x : D) : Prop := Bv κ x ∧ P (fz κ x)
theorem bad_pl {P : D → Prop} {κ : Ck} {x : D} (h : Pl x) (hp : P x) : Bad P κ x := ⟨.pl h, by rw [fz_np x h.np]; exact hp⟩
theorem bad_lst {P : D → Prop} {κ : Ck} {p : Addr} {xs : List D} (h : lkC κ p = some (.lst xs)) (h2 : xs.length < 100) (hp : P (.lst xs)) : Bad P κ (.ptr (.ref p)) := ⟨.lst p xs h h2, by rw [fz_cell h]; exact hp⟩
theorem bad_dct {P : D → Prop} {κ : Ck} {p : Addr} (h : lkC κ p = some (.dct [])) (hp : P (.dct [] [])) : Bad P κ (.ptr (.ref p)) := ⟨.dct p h, by rw [fz_cellD h]; exact hp⟩
theorem bad_word_ok {n : Nat} {b : List D} {κ : Ck} {Q : QN} {E : EN} (hb : Box n b) (hn : n + 1 ≤ 1000000000)
    (h : ∀ x b' κ', Box (n + 1) b' → Bad BadW κ' x → Q (.d x) [.own true b'] κ') : wN F__law_bad_word [.own true b] κ Q E := by
  unfold F__law_bad_word
  rw [wN_run]
  unfold B__law_bad_word
  simp
  intro p hp q hq
  refine take_ok hb (by omega) (by omega) (by omega) fun v b1 hb1 hv0 hv1 => ?_
  have lp : lkC ((q, .dct []) :: (p, .lst [.str [97]]) :: κ) p = some (.lst [.str [97]]) := lkC_old hq (by simp)
  have lq : lkC ((q, .dct []) :: (p, .lst [.str [97]]) :: κ) q = some (.dct []) := by simp
  simp
  obtain ⟨x, ex, mx⟩ := atI_mem (l := [D.non, D.int 7, D.str [97, 98, 101], D.str [65], D.ptr (V.ref p), D.tup [D.str [97], D.str [98]], D.str (List.replicate 201 97), D.bl true, D.ptr (V.ref q), D.str [97, 32, 98], D.str [97, 98, 10], D.int (-1)]) hv0 (by simpa using hv1)
  refine oq_iff.mpr ⟨x, ex, ?_⟩
  simp
  refine h x b1 _ hb1 ?_
  generalize (q, CO.dct []) :: (p, CO.lst [D.str [97]]) :: κ = κ' at *
  simp only [List.mem_cons, List.not_mem_nil, or_false] at mx
  rcases mx with rfl | rfl | rfl | rfl | rfl | rfl | rfl | rfl | rfl | rfl | rfl | rfl
  · exact bad_pl .non badW_non
  · exact bad_pl (.int _) badW_int
  · exact bad_pl (.str _ (by simp)) (badW_str (by simp) (by decide))
  · exact bad_pl (.str _ (by simp)) (badW_str (by simp) (by decide))
  · exact bad_lst lp (by simp) badW_lst
  · exact bad_pl (.tup _ rfl (by simp) (fun x hx => by simp at hx; rcases hx with rfl | rfl <;> simp [Gd])) badW_tup
  · exact bad_pl (.str _ (by simp)) (badW_str (by simp) (by decide +kernel))
  · exact bad_pl (.bl _) badW_bl
  · exact bad_dct lq badW_dct
  · exact bad_pl (.str _ (by simp)) (badW_str (by simp) (by decide))
  · exact bad_pl (.str _ (by simp)) (badW_str (by simp) (by decide))
  · exact bad_pl (.int _) badW_int
end K02
namespace K02
open PySem PySem.Spec PyProof.Rows L2 TL M
theorem divisor_ok {a b : Nat} (hb : b ≤ 100000) (ha : a ≤ 100000) {Q : RV → List SV → Prop} (h : Q (.d (.int (Nat.gcd a b : Nat))) [.d (.int a), .d (.int b)]) : wF F_divisor [.d (.int a), .d (.int b)] Q := by
  unfold F_divisor
  rw [wF_run]
  unfold B_divisor
  simp
  refine wW_inv (fun k ρ => ∃ x y : Nat, Nat.gcd x y = Nat.gcd a b ∧ y = k ∧ y ≤ 100000 ∧ x ≤ 100000 ∧ ρ = [some (.d (.int x)), some (.d (.int y))]) (k := b) (by omega) ⟨a, b, rfl, rfl, hb, ha, rfl⟩ fun k ρ hP => ?_
  obtain ⟨x, y, hg, rfl, hy, hx, rfl⟩ := hP
  by_cases e : y = 0
  · subst e
    simp at hg
    simp
    rw [hg]
    exact h
  · have e' : ¬ ((y : Int) = 0) := by omega
    simp [e']
    rw [if_neg e]
    have hlt := Nat.mod_lt x (show 0 < y by omega)
    refine ⟨by omega, x % y, hlt, y, x % y, ?_, rfl, by omega, hy, rfl, by simp⟩
    rw [← hg, Nat.gcd_comm x y, Nat.gcd_rec y x, Nat.gcd_comm]
end K02
namespace K02
def Bd (w : List Nat) (n k : Nat) : Prop := k < n ∧ n ≤ w.length ∧ ∀ i, i < k → w[i]? = w[n - k + i]?
def LB (w : List Nat) (n k : Nat) : Prop := Bd w n k ∧ ∀ j, Bd w n j → j ≤ k
theorem bd_zero {w : List Nat} {n : Nat} (h0 : 0 < n) (h : n ≤ w.length) : Bd w n 0 := ⟨h0, h, fun i hi => by omega⟩
theorem bd_succ {w : List Nat} {n j : Nat} (h0 : 0 < n) (h : n < w.length) : Bd w (n + 1) (j + 1) ↔ Bd w n j ∧ w[j]? = w[n]? := by
  constructor
  · rintro ⟨h1, h2, h3⟩
    refine ⟨⟨by omega, by omega, fun i hi => ?_⟩, ?_⟩
    · have := h3 i (by omega)
      rw [show n + 1 - (j + 1) + i = n - j + i by omega] at this
      exact this
    · have := h3 j (by omega)
      rw [show n + 1 - (j + 1) + j = n by omega] at this
      exact this
  · rintro ⟨⟨h1, h2, h3⟩, h4⟩
    refine ⟨by omega, by omega, fun i hi => ?_⟩
    rw [show n + 1 - (j + 1) + i = n - j + i by omega]
    by_cases e : i = j
    · subst e
      rw [show n - i + i = n by omega]
      exact h4
    · exact h3 i (by omega)
theorem bd_trans {w : List Nat} {n k j : Nat} (h : Bd w n k) (h' : Bd w k j) : Bd w n j := by
  obtain ⟨a1, a2, a3⟩ := h
  obtain ⟨b1, b2, b3⟩ := h'
  refine ⟨by omega, a2, fun i hi => ?_⟩
  rw [b3 i hi, a3 (k - j + i) (by omega)]
  congr 1
  omega
theorem bd_sub {w : List Nat} {n k j : Nat} (h : Bd w n k) (h' : Bd w n j) (hj : j < k) : Bd w k j := by
  obtain ⟨a1, a2, a3⟩ := h
  obtain ⟨b1, b2, b3⟩ := h'
  refine ⟨hj, by omega, fun i hi => ?_⟩
  rw [b3 i hi, a3 (k - j + i) (by omega)]
  congr 1
  omega
def Pd (w : List Nat) (p : Nat) : Prop := ∀ i, i + p < w.length → w[i]? = w[i + p]?
theorem pd_of_bd {w : List Nat} {k : Nat} (h : Bd w w.length k) : Pd w (w.length - k) := fun i hi => by
  have := h.2.2 i (by omega)
  rw [this]
  congr 1
  omega
theorem bd_of_pd {w : List Nat} {p : Nat} (h : Pd w p) (h0 : 0 < p) (hp : p ≤ w.length) : Bd w w.length (w.length - p) := ⟨by omega, Nat.le_refl _, fun i hi => by
  have := h i (by omega)
  rw [this]
  congr 1
  omega⟩
theorem pd_sub {w : List Nat} {p q : Nat} (hp : Pd w p) (hq : Pd w q) (hpq : p ≤ q) (hl : p + q ≤ w.length) : Pd w (q - p) := fun i hi => by
  by_cases h : i + q < w.length
  · have h1 := hq i h
    have h2 := hp (i + (q - p)) (by omega)
    rw [show i + (q - p) + p = i + q by omega] at h2
    rw [h1, h2]
  · have h1 := hp (i - p) (by omega)
    rw [show i - p + p = i by omega] at h1
    have h2 := hq (i - p) (by omega)
    rw [show i - p + q = i + (q - p) by omega] at h2
    rw [← h1, h2]
theorem pd_gcd {w : List Nat} : ∀ (n p q : Nat), p + q ≤ n → Pd w p → Pd w q → p + q ≤ w.length → Pd w (Nat.gcd p q)
  | 0, p, q, hn, hp, hq, hl => by
    have : p = 0 := by omega
    have : q = 0 := by omega
    subst p q
    exact hp
  | n + 1, p, q, hn, hp, hq, hl => by
    by_cases h0 : p = 0
    · subst h0; simpa using hq
    by_cases h1 : q = 0
    · subst h1; simpa using hp
    by_cases h : p ≤ q
    · have := pd_gcd n p (q - p) (by omega) hp (pd_sub hp hq h hl) (by omega)
      rwa [Nat.gcd_sub_self_right h] at this
    · have := pd_gcd n (p - q) q (by omega) (pd_sub hq hp (by omega) (by omega)) hq (by omega)
      rwa [Nat.gcd_sub_self_left (by omega)] at this
theorem rep_get {u : List Nat} (hu : 0 < u.length) : ∀ (m i : Nat), i < m * u.length → (List.replicate m u).flatten[i]? = u[i % u.length]?
  | 0, i, h => by simp at h
  | m + 1, i, h => by
    rw [List.replicate_succ, List.flatten_cons]
    by_cases hi : i < u.length
    · rw [List.getElem?_append_left hi, Nat.mod_eq_of_lt hi]
    · rw [List.getElem?_append_right (by omega), rep_get hu m (i - u.length) (by rw [Nat.succ_mul] at h; omega)]
      congr 1
      rw [← Nat.mod_eq_sub_mod (by omega)]
theorem rep_len (m : Nat) (u : List Nat) : (List.replicate m u).flatten.length = m * u.length := by
  induction m with
  | zero => simp
  | succ m ih => rw [List.replicate_succ, List.flatten_cons, List.length_append, ih, Nat.succ_mul]; omega
theorem pd_mod {w : List Nat} {p : Nat} (h : Pd w p) (h0 : 0 < p) : ∀ (n i : Nat), i ≤ n → i < w.length → w[i]? = w[i % p]?
  | n, i, hn, hi => by
    by_cases hp : i < p
    · rw [Nat.mod_eq_of_lt hp]
    · cases n with
      | zero => omega
      | succ n =>
        have := h (i - p) (by omega)
        rw [show i - p + p = i by omega] at this
        rw [← this, pd_mod h h0 n (i - p) (by omega) (by omega), ← Nat.mod_eq_sub_mod (by omega)]
end K02
namespace K02
open PySem PySem.Spec PyProof.Rows L2 TL M
def Tb (w : List Nat) (fs : List Nat) : Prop := ∀ i k, fs[i]? = some k → LB w (i + 1) k
def Try (w : List Nat) (n k : Nat) : Prop := (n = 0 ∧ k = 0) ∨ (0 < n ∧ Bd w n k ∧ ∀ j, Bd w (n + 1) j → j ≤ k + 1)
def BI (w : List Nat) (i : Nat) (ρ : Sl) : Prop := ∃ fs a b, fs.length = i ∧ Tb w fs ∧ ρ = [some (.d (.str w)), some (.own false (fs.map fun (k : Nat) => D.int (k : Int))), a, b]
def WI (w : List Nat) (n : Nat) (k : Nat) (ρ : Sl) : Prop := ∃ fs, fs.length = n ∧ Tb w fs ∧ Try w n k ∧ ρ = [some (.d (.str w)), some (.own false (fs.map fun (k : Nat) => D.int (k : Int))), some (.d (.int n)), some (.d (.int k))]
theorem borders_table_ok {w : List Nat} (hw : w.length ≤ 1000) {Q : RV → List SV → Prop} (h : ∀ fs : List Nat, fs.length = w.length → Tb w fs → Q (.own (fs.map fun (k : Nat) => D.int (k : Int))) [.d (.str w)]) : wF F_borders_table [.d (.str w)] Q := by
  unfold F_borders_table
  rw [wF_run]
  unfold B_borders_table
  simp
  refine ⟨by omega, by omega, wR_inv (BI w) (k := 0) ⟨[], none, none, rfl, fun i k hk => by simp at hk, rfl⟩ (fun i x ρ hx hP => ?_) fun ρ hP => ?_⟩
  · obtain ⟨fs, a, b, hfl, hT, rfl⟩ := hP
    obtain ⟨hi, rfl⟩ := range_at hx
    simp at hfl
    subst hfl
    rw [bName_ap, oq_some]
    have tl : ∀ n k, fs[n]? = some k → k ≤ n := fun n k hk => by
      have := (hT n k hk).1.1
      omega
    refine wS_cut (fun ρ => ∃ k, WI w fs.length k ρ) ?_ ?_
    · simp
      by_cases h0 : fs.length = 0
      · have h0' : fs = [] := List.eq_nil_of_length_eq_zero h0
        subst h0'
        simp
        exact ⟨0, [], rfl, hT, .inl ⟨rfl, rfl⟩, rfl⟩
      · rw [if_pos (List.length_pos_iff.mpr (fun z => h0 (by rw [z]; rfl)))]
        have e1 : ((fs.length : Int) - 1) = ((fs.length - 1 : Nat) : Int) := by omega
        have hlt : fs.length - 1 < fs.length := by omega
        rw [e1, atI_nat (by simpa using hlt)]
        simp
        have hL := hT (fs.length - 1) fs[fs.length - 1] (List.getElem?_eq_getElem hlt)
        rw [show fs.length - 1 + 1 = fs.length by omega] at hL
        refine ⟨fs[fs.length - 1], fs, rfl, hT, .inr ⟨by omega, hL.1, fun j hj => ?_⟩, rfl⟩
        cases j with
        | zero => omega
        | succ j =>
          have := hL.2 j ((bd_succ (by omega) hi).mp hj).1
          omega
    rintro ρ ⟨k, hW⟩
    refine wS_cut (fun ρ => ∃ k, WI w fs.length k ρ ∧ (k = 0 ∨ w[k]? = w[fs.length]?)) ?_ ?_
    · rw [wS_While]
      have hk0 : k < 1000000 := by
        obtain ⟨_, _, _, hT2, _⟩ := hW
        rcases hT2 with ⟨_, z⟩ | ⟨_, z, _⟩
        · omega
        · have := z.1
          omega
      refine wW_inv (fun k ρ => WI w fs.length k ρ) (k := k) hk0 hW fun k ρ hP => ?_
      obtain ⟨gs, hgl, hG, hT2, rfl⟩ := hP
      have hkl : k ≤ fs.length := by
        rcases hT2 with ⟨_, z⟩ | ⟨_, z, _⟩
        · omega
        · have := z.1
          omega
      simp
      by_cases hk : k = 0
      · subst hk
        simp
        exact ⟨0, ⟨gs, hgl, hG, hT2, rfl⟩, .inl rfl⟩
      · have hkp : 0 < k := by omega
        simp [hkp]
        rw [atI_nat (show k < w.length by omega)]
        simp
        rw [atI_nat hi]
        simp
        by_cases he : w[k] = w[fs.length]
        · simp [he]
          refine ⟨by omega, k, ⟨gs, hgl, hG, hT2, rfl⟩, .inr ?_⟩
          rw [List.getElem?_eq_getElem (show k < w.length by omega), List.getElem?_eq_getElem hi, he]
        · simp [he]
          have e1 : ((k : Int) - 1) = ((k - 1 : Nat) : Int) := by omega
          have hlt : k - 1 < gs.length := by omega
          rw [e1, atI_nat (by simpa using hlt)]
          simp
          obtain ⟨_, z⟩ | ⟨hn, hB, hM⟩ := hT2
          · omega
          have hL := hG (k - 1) gs[k - 1] (List.getElem?_eq_getElem hlt)
          rw [show k - 1 + 1 = k by omega] at hL
          refine ⟨by omega, gs[k - 1], hL.1.1, gs, hgl, hG, .inr ⟨hn, bd_trans hB hL.1, fun j hj => ?_⟩, rfl⟩
          cases j with
          | zero => omega
          | succ j =>
            have h1 := hM _ hj
            obtain ⟨h2, h3⟩ := (bd_succ hn hi).mp hj
            have hne : j ≠ k := fun z => by
              subst z
              rw [List.getElem?_eq_getElem (show j < w.length by omega), List.getElem?_eq_getElem hi] at h3
              exact he (Option.some.inj h3)
            have := hL.2 j (bd_sub hB h2 (by omega))
            omega
    rintro ρ ⟨k, ⟨gs, hgl, hG, hT2, rfl⟩, hE⟩
    simp
    have push : ∀ (v : Nat) a b, LB w (fs.length + 1) v → BI w (fs.length + 1) [some (.d (.str w)), some (.own false ((gs.map fun (k : Nat) => D.int (k : Int)) ++ [.int v])), a, b] := fun v a b hv => by
      refine ⟨gs ++ [v], a, b, by simp; exact hgl, fun i k hk => ?_, by simp⟩
      by_cases hlt : i < gs.length
      · rw [List.getElem?_append_left hlt] at hk
        exact hG i k hk
      · have hlt2 : i < (gs ++ [v]).length := (List.getElem?_eq_some_iff.mp hk).1
        simp at hlt2
        have : i = gs.length := by omega
        subst this
        simp at hk
        subst hk
        rw [hgl]
        exact hv
    have hz : LB w (fs.length + 1) 0 ∨ 0 < fs.length := by
      by_cases h0 : fs.length = 0
      · refine .inl ⟨bd_zero (by omega) (by omega), fun j hj => ?_⟩
        have := hj.1
        omega
      · exact .inr (by omega)
    by_cases hn : 0 < fs.length
    · rw [if_pos hn]
      have hB : Bd w fs.length k ∧ ∀ j, Bd w (fs.length + 1) j → j ≤ k + 1 := by
        rcases hT2 with ⟨z, _⟩ | ⟨_, z⟩
        · omega
        · exact z
      have hkl := hB.1.1
      rw [atI_nat (show k < w.length by omega)]
      simp
      rw [atI_nat hi]
      simp
      by_cases he : w[k] = w[fs.length]
      · simp [he]
        refine ⟨by omega, by omega, ?_⟩
        have := push (k + 1) (some (.d (.int fs.length))) (some (.d (.int k))) ⟨(bd_succ hn hi).mpr ⟨hB.1, by rw [List.getElem?_eq_getElem (show k < w.length by omega), List.getElem?_eq_getElem hi, he]⟩, hB.2⟩
        simpa using this
      · simp [he]
        have hk0 : k = 0 := by
          rcases hE with z | z
          · exact z
          · rw [List.getElem?_eq_getElem (show k < w.length by omega), List.getElem?_eq_getElem hi] at z
            exact absurd (Option.some.inj z) he
        subst hk0
        refine ⟨by omega, by omega, push 0 _ _ ⟨bd_zero (by omega) (by omega), fun j hj => ?_⟩⟩
        cases j with
        | zero => omega
        | succ j =>
          have h1 := hB.2 _ hj
          obtain ⟨h2, h3⟩ := (bd_succ hn hi).mp hj
          have : j = 0 := by omega
          subst this
          rw [List.getElem?_eq_getElem (show 0 < w.length by omega), List.getElem?_eq_getElem hi] at h3
          exact absurd (Option.some.inj h3) he
    · rw [if_neg hn]
      refine ⟨by omega, push 0 _ _ ?_⟩
      rcases hz with z | z
      · exact z
      · omega
  · obtain ⟨fs, a, b, hfl, hT, rfl⟩ := hP
    simp at hfl
    simp
    exact h fs hfl hT
theorem least_period_ok {w : List Nat} (hne : w ≠ []) (hw : w.length ≤ 1000) {Q : RV → List SV → Prop} (h : ∀ k, LB w w.length k → Q (.d (.int (w.length - k : Nat))) [.d (.str w)]) : wF F_least_period_of [.d (.str w)] Q := by
  have hpos : 0 < w.length := List.length_pos_iff.mpr hne
  unfold F_least_period_of
  rw [wF_run]
  unfold B_least_period_of
  simp [hne]
  refine ⟨by omega, borders_table_ok hw fun fs hfl hT => ?_⟩
  simp
  have hlt : fs.length - 1 < fs.length := by omega
  have hL := hT (fs.length - 1) fs[fs.length - 1] (List.getElem?_eq_getElem hlt)
  rw [show fs.length - 1 + 1 = w.length by omega] at hL
  have ea : atI (fs.map fun (k : Nat) => D.int (k : Int)) (-1) = some (.int (fs[fs.length - 1] : Nat)) := by
    rw [atI_m1 (by simpa using (show 0 < fs.length by omega))]
    simp
  rw [ea]
  simp
  have hk := hL.1.1
  have e2 : ((w.length : Int) - (fs[fs.length - 1] : Nat)) = ((w.length - fs[fs.length - 1] : Nat) : Int) := by omega
  rw [e2]
  exact h _ hL
theorem lb_ex {w : List Nat} (hne : w ≠ []) : ∃ k, LB w w.length k := by
  have hpos : 0 < w.length := List.length_pos_iff.mpr hne
  suffices h : ∀ n, (∃ k, LB w w.length k) ∨ (∀ j, Bd w w.length j → j + n < w.length + 1) by
    rcases h (w.length + 1) with h | h
    · exact h
    · have := h 0 (bd_zero hpos (Nat.le_refl _))
      omega
  intro n
  induction n with
  | zero => exact .inr fun j hj => by have := hj.1; omega
  | succ n ih =>
    rcases ih with ih | ih
    · exact .inl ih
    · by_cases hb : n ≤ w.length ∧ Bd w w.length (w.length - n)
      · refine .inl ⟨w.length - n, hb.2, fun j hj => ?_⟩
        have := ih j hj
        omega
      · refine .inr fun j hj => ?_
        have h1 := ih j hj
        have h2 := hj.1
        by_cases e : j = w.length - n ∧ n ≤ w.length
        · rw [e.1] at hj
          exact absurd ⟨e.2, hj⟩ hb
        · omega
end K02
namespace K02
def lcp : List Nat → List Nat → Nat
  | a :: s, b :: t => if a = b then lcp s t + 1 else 0
  | _, _ => 0
theorem lcp_spec : ∀ s t : List Nat, lcp s t ≤ s.length ∧ lcp s t ≤ t.length ∧ (∀ i, i < lcp s t → s[i]? = t[i]?) ∧ (lcp s t < s.length → lcp s t < t.length → s[lcp s t]? ≠ t[lcp s t]?)
  | [], t => by simp [lcp]
  | a :: s, [] => by simp [lcp]
  | a :: s, b :: t => by
    obtain ⟨h1, h2, h3, h4⟩ := lcp_spec s t
    by_cases e : a = b
    · have el : lcp (a :: s) (b :: t) = lcp s t + 1 := by simp [lcp, e]
      rw [el]
      refine ⟨by simp; omega, by simp; omega, fun i hi => ?_, fun g1 g2 => ?_⟩
      · cases i with
        | zero => simp [e]
        | succ i => simpa using h3 i (by omega)
      · simpa using h4 (by simpa using g1) (by simpa using g2)
    · have el : lcp (a :: s) (b :: t) = 0 := by simp [lcp, e]
      rw [el]
      refine ⟨by simp, by simp, fun i hi => by omega, fun _ _ => by simpa using e⟩
def zv (w : List Nat) (k : Nat) : Nat := lcp w (w.drop k)
theorem zv_spec {w : List Nat} {k : Nat} (hk : k ≤ w.length) : k + zv w k ≤ w.length ∧ (∀ i, i < zv w k → w[i]? = w[k + i]?) ∧ (k + zv w k < w.length → w[zv w k]? ≠ w[k + zv w k]?) := by
  obtain ⟨h1, h2, h3, h4⟩ := lcp_spec w (w.drop k)
  unfold zv
  have hl : (w.drop k).length = w.length - k := by simp
  rw [hl] at h2 h4
  refine ⟨by omega, fun i hi => ?_, fun h => ?_⟩
  · have := h3 i hi
    rwa [List.getElem?_drop] at this
  · have := h4 (by omega) (by omega)
    rwa [List.getElem?_drop] at this
theorem zv_ge {w : List Nat} {k z : Nat} (h1 : k + z ≤ w.length) (h2 : ∀ i, i < z → w[i]? = w[k + i]?) : z ≤ zv w k := by
  obtain ⟨a, b, c⟩ := zv_spec (w := w) (k := k) (by omega)
  rcases Nat.lt_or_ge (zv w k) z with h | h
  · exact absurd (h2 _ h) (c (by omega))
  · exact h
theorem zv_uniq {w : List Nat} {k z : Nat} (h1 : k + z ≤ w.length) (h2 : ∀ i, i < z → w[i]? = w[k + i]?) (h3 : k + z < w.length → w[z]? ≠ w[k + z]?) : z = zv w k := by
  have hg := zv_ge h1 h2
  obtain ⟨a, b, c⟩ := zv_spec (w := w) (k := k) (by omega)
  rcases Nat.lt_or_ge z (zv w k) with h | h
  · exact absurd (b _ h) (h3 (by omega))
  · omega
theorem bd_zv {w : List Nat} {n j : Nat} (hj : j < n) (hn : n ≤ w.length) : Bd w n j ↔ j ≤ zv w (n - j) := by
  constructor
  · rintro ⟨_, _, h⟩
    exact zv_ge (by omega) h
  · intro h
    obtain ⟨a, b, c⟩ := zv_spec (w := w) (k := n - j) (by omega)
    exact ⟨hj, hn, fun i hi => b i (by omega)⟩
def perB (w : List Nat) (p : Nat) : Bool := decide (0 < p) && decide (zv w p = w.length - p)
theorem perB_iff {w : List Nat} {p : Nat} (h0 : 0 < p) (hp : p < w.length) : perB w p = true ↔ Bd w w.length (w.length - p) := by
  unfold perB
  rw [bd_zv (by omega) (Nat.le_refl _)]
  have e : w.length - (w.length - p) = p := by omega
  rw [e]
  have := (zv_spec (w := w) (k := p) (by omega)).1
  simp
  omega
def PL (w : List Nat) (b : Nat) : List Nat := (List.range b).filter (perB w)
theorem filter_ext {f : Nat → Bool} {a : Nat} (ha : f a = true) : ∀ b, a < b → (∀ p, a < p → p < b → f p = false) → (List.range b).filter f = (List.range a).filter f ++ [a]
  | 0, h, _ => by omega
  | b + 1, h, hf => by
    rw [List.range_succ, List.filter_append]
    by_cases e : a = b
    · subst e
      simp [ha]
    · rw [filter_ext ha b (by omega) fun p h1 h2 => hf p h1 (by omega)]
      simp [hf b (by omega) (by omega)]
theorem pl_step {w : List Nat} {s s' : Nat} (hs : 0 < s) (hB : Bd w w.length s) (hL : LB w s s') : PL w (w.length - s') = PL w (w.length - s) ++ [w.length - s] := by
  have h1 := hB.1
  have h2 := hL.1.1
  refine filter_ext ((perB_iff (by omega) (by omega)).mpr (by rw [show w.length - (w.length - s) = s by omega]; exact hB)) _ (by omega) fun p hp1 hp2 => ?_
  cases e : perB w p with
  | false => rfl
  | true =>
    have := (perB_iff (by omega) (by omega)).mp e
    have := hL.2 _ (bd_sub hB this (by omega))
    omega
theorem pl_first {w : List Nat} {s : Nat} (hL : LB w w.length s) : PL w (w.length - s) = [] := by
  unfold PL
  rw [List.filter_eq_nil_iff]
  intro p hp
  have hp := List.mem_range.mp hp
  intro e
  by_cases h0 : 0 < p
  · have := hL.2 _ ((perB_iff h0 (by omega)).mp e)
    omega
  · unfold perB at e
    simp [h0] at e
theorem pl_mem {w : List Nat} {b p : Nat} (h : p ∈ PL w b) : 0 < p ∧ p < b := by
  unfold PL at h
  obtain ⟨h1, h2⟩ := List.mem_filter.mp h
  unfold perB at h2
  simp at h1 h2
  exact ⟨h2.1, h1⟩
def perL (w : List Nat) : List Nat := if w = [] then [] else PL w w.length ++ [w.length]
def dueL (w : List Nat) : List Nat := ((List.range w.length).map (· + 1)).filter fun p => decide (p = w.length) || decide (zv w p = w.length - p)
theorem due_per (w : List Nat) : dueL w = perL w := by
  unfold dueL perL
  by_cases hw : w = []
  · subst hw; rfl
  rw [if_neg hw]
  have hpos : 0 < w.length := List.length_pos_iff.mpr hw
  have e1 : (List.range (w.length + 1)).filter (fun p => decide (0 < p) && (decide (p = w.length) || decide (zv w p = w.length - p))) = ((List.range w.length).map (· + 1)).filter fun p => decide (p = w.length) || decide (zv w p = w.length - p) := by
    rw [List.range_succ_eq_map, List.filter_cons]
    simp only [Nat.lt_irrefl, decide_false, Bool.false_and, Bool.false_eq_true, if_false]
    rw [List.filter_map, List.filter_map]
    congr 1
  rw [← e1, List.range_succ, List.filter_append]
  congr 1
  · unfold PL
    apply List.filter_congr
    intro p hp
    have hp := List.mem_range.mp hp
    unfold perB
    rw [decide_eq_false (show ¬ p = w.length by omega)]
    simp
  · simp [hpos]
def borL (w : List Nat) : List Nat := ((perL w).map fun p => w.length - p).reverse
end K02
namespace K02
open PySem PySem.Spec PyProof.Rows L2 TL M
abbrev intL (l : List Nat) : List D := l.map fun (k : Nat) => D.int (k : Int)
def BC (w fs : List Nat) (s : Nat) (ρ : Sl) : Prop := (s = 0 ∨ Bd w w.length s) ∧ s < w.length ∧ ρ = [some (.d (.str w)), some (.own false (intL fs)), some (.own false (intL ((PL w (w.length - s)).map fun p => w.length - p))), some (.d (.int s))]
theorem pl_len {w : List Nat} {b : Nat} : (PL w b).length ≤ b := by
  unfold PL
  exact Nat.le_trans (List.length_filter_le _ _) (by simp)
theorem border_lengths_ok {w : List Nat} (hw : w.length ≤ 1000) {Q : RV → List SV → Prop} (h : Q (.own (intL (borL w))) [.d (.str w)]) : wF F_border_lengths [.d (.str w)] Q := by
  unfold F_border_lengths
  rw [wF_run]
  unfold B_border_lengths
  by_cases hne : w = []
  · subst hne
    simp
    exact h
  have hpos : 0 < w.length := List.length_pos_iff.mpr hne
  simp [hne]
  refine borders_table_ok hw fun fs hfl hT => ?_
  simp
  have hlt : fs.length - 1 < fs.length := by omega
  have ea : atI (fs.map fun (k : Nat) => D.int (k : Int)) (-1) = some (.int (fs[fs.length - 1] : Nat)) := by
    rw [atI_m1 (by simpa using (show 0 < fs.length by omega))]
    simp
  have hL := hT (fs.length - 1) fs[fs.length - 1] (List.getElem?_eq_getElem hlt)
  rw [show fs.length - 1 + 1 = w.length by omega] at hL
  rw [ea]
  simp
  generalize fs[fs.length - 1] = s0 at *
  have hs0 := hL.1.1
  refine wW_inv (BC w fs) (k := s0) (by omega) ⟨.inr hL.1, hs0, by rw [pl_first hL]; rfl⟩ fun s ρ hP => ?_
  obtain ⟨hB, hs, rfl⟩ := hP
  simp
  by_cases h0 : s = 0
  · subst h0
    simp
    have el : (PL w w.length).length ≤ w.length := pl_len
    refine ⟨by omega, ?_⟩
    have eb : borL w = 0 :: ((PL w w.length).map fun p => w.length - p).reverse := by
      unfold borL perL
      rw [if_neg hne]
      simp
    rw [eb] at h
    simpa using h
  · have hsp : 0 < s := by omega
    have hB : Bd w w.length s := by rcases hB with z | z; exact absurd z h0; exact z
    simp [hsp]
    have el : (PL w (w.length - s)).length ≤ w.length - s := pl_len
    have e1 : ((s : Int) - 1) = ((s - 1 : Nat) : Int) := by omega
    have hlt2 : s - 1 < fs.length := by omega
    rw [e1, atI_nat (by simpa using hlt2)]
    simp
    have hL2 := hT (s - 1) fs[s - 1] (List.getElem?_eq_getElem hlt2)
    rw [show s - 1 + 1 = s by omega] at hL2
    have hn := hL2.1.1
    refine ⟨by omega, fs[s - 1], hn, .inr (bd_trans hB hL2.1), by omega, ?_⟩
    rw [pl_step hsp hB hL2]
    simp
    omega
theorem periods_of_ok {w : List Nat} (hw : w.length ≤ 1000) {Q : RV → List SV → Prop} (h : Q (.own (intL (perL w))) [.d (.str w)]) : wF F_periods_of [.d (.str w)] Q := by
  unfold F_periods_of
  rw [wF_run]
  unfold B_periods_of
  simp
  refine border_lengths_ok hw ?_
  have e0 : (borL w).reverse = (perL w).map fun p => w.length - p := by unfold borL; rw [List.reverse_reverse]
  have e1 : (intL (borL w)).reverse = intL ((perL w).map fun p => w.length - p) := by rw [← List.map_reverse, e0]
  have hlen : (perL w).length ≤ w.length + 1 := by
    unfold perL
    split
    · simp
    · have := @pl_len w w.length
      simp; omega
  have hmem : ∀ p ∈ perL w, p ≤ w.length := by
    unfold perL
    split
    · simp
    · intro p hp
      rcases List.mem_append.mp hp with hp | hp
      · have := pl_mem hp; omega
      · simp at hp; omega
  simp only [intL] at e1 h ⊢
  generalize (borL w).map (fun (k : Nat) => D.int (k : Int)) = L at *
  simp [e1]
  refine wC_map (fun _ => true) (fun x => match x with | .int j => .int (w.length - j) | _ => .non) (by simp; omega) (fun x hx => ?_) ?_
  · simp at hx
    obtain ⟨p, hp, rfl⟩ := hx
    simp [wipeS]
    omega
  · rw [filter_true, List.map_map]
    simp
    have e2 : ((perL w).map fun p => D.int ((w.length : Int) - ((w.length - p : Nat) : Int))) = (perL w).map fun (k : Nat) => D.int (k : Int) := by
      apply List.map_congr_left
      intro p hp
      have := hmem p hp
      congr 1
      omega
    simp only [Function.comp_def] at *
    rw [e2]
    exact h
end K02
namespace K02
open PySem PySem.Spec PyProof.Rows L2 TL M
def comL (w : List Nat) : List Nat := (List.range w.length).map (zv w)
def Zok (w : List Nat) (i l r : Nat) : Prop := r ≤ w.length ∧ ((l = 0 ∧ r = 0) ∨ (0 < l ∧ l < i ∧ ∀ j, l + j < r → w[j]? = w[l + j]?))
def ZI (w : List Nat) (i : Nat) (ρ : Sl) : Prop := ∃ (l r : Nat) (o4 o5 : Option SV), Zok w i l r ∧ ρ = [some (.d (.str w)), some (.own false (intL ((List.range i).map (zv w)))), some (.d (.int l)), some (.d (.int r)), o4, o5]
def ZS (w : List Nat) (i : Nat) (z : Nat) (ρ : Sl) : Prop := ∃ (l r : Nat), Zok w i l r ∧ i + z ≤ w.length ∧ (∀ j, j < z → w[j]? = w[i + j]?) ∧ ρ = [some (.d (.str w)), some (.own false (intL ((List.range i).map (zv w)))), some (.d (.int l)), some (.d (.int r)), some (.d (.int i)), some (.d (.int z))]
def ZE (w : List Nat) (i : Nat) (ρ : Sl) : Prop := ∃ z, ZS w i z ρ
def ZW (w : List Nat) (i k : Nat) (ρ : Sl) : Prop := ∃ z, k = w.length - i - z ∧ ZS w i z ρ
def ZT (w : List Nat) (i : Nat) (ρ : Sl) : Prop := ∃ l r : Nat, Zok w i l r ∧ ρ = [some (.d (.str w)), some (.own false (intL ((List.range i).map (zv w)))), some (.d (.int l)), some (.d (.int r)), some (.d (.int i)), some (.d (.int (zv w i : Nat)))]
theorem prefix_lengths_ok {w : List Nat} (hw : w.length ≤ 1000) {Q : RV → List SV → Prop} (h : Q (.own (intL (comL w))) [.d (.str w)]) : wF F_prefix_lengths [.d (.str w)] Q := by
  unfold F_prefix_lengths
  rw [wF_run]
  unfold B_prefix_lengths
  refine ⟨rfl, ?_⟩
  refine wS_cut (ZI w 0) ?_ fun ρ hP => ?_
  · simp
    exact ⟨0, 0, none, none, ⟨by omega, .inl ⟨rfl, rfl⟩⟩, rfl⟩
  obtain ⟨l, r, o4, o5, hz, rfl⟩ := hP
  simp
  refine ⟨by omega, by omega, wR_inv (ZI w) (k := 0) ⟨l, r, o4, o5, hz, rfl⟩ (fun i x ρ hx hP => ?_) fun ρ hP => ?_⟩
  · obtain ⟨l, r, o4, o5, hz, rfl⟩ := hP
    obtain ⟨hi, rfl⟩ := range_at hx
    rw [Nat.zero_add] at hz ⊢
    rw [bName_ap, oq_some]
    refine wS_cut (ZE w i) ?_ fun ρ hP => ?_
    · have fin : ∀ z : Nat, i + z ≤ w.length → (∀ j, j < z → w[j]? = w[i + j]?) → ZE w i [some (.d (.str w)), some (.own false (intL ((List.range i).map (zv w)))), some (.d (.int l)), some (.d (.int r)), some (.d (.int i)), some (.d (.int z))] := fun z h1 h2 => ⟨z, l, r, hz, h1, h2, rfl⟩
      have hat : ∀ j, j < i → atI (intL ((List.range i).map (zv w))) ((j : Nat) : Int) = some (.int (zv w j : Nat)) := fun j hj => by
        rw [M.atI_nat (by simpa using hj)]
        simp
      generalize intL ((List.range i).map (zv w)) = L at *
      simp
      split
      · rename_i h0
        split
        · rename_i h1
          obtain ⟨z1, z2⟩ := hz
          rcases z2 with ⟨rfl, rfl⟩ | ⟨z2, z3, z4⟩
          · omega
          have e1 : ((i : Int) - (l : Int)) = ((i - l : Nat) : Int) := by omega
          rw [e1, hat _ (by omega)]
          simp
          obtain ⟨g1, g2, g3⟩ := zv_spec (w := w) (k := i - l) (by omega)
          generalize zv w (i - l) = zz at *
          have em : (if (r : Int) - (i : Int) < (zz : Int) then (r : Int) - (i : Int) else (zz : Int)) = ((min (r - i) zz : Nat) : Int) := by split <;> omega
          rw [em]
          refine fin (min (r - i) zz) (by omega) fun j hj => ?_
          rw [g2 j (by omega)]
          have := z4 (i - l + j) (by omega)
          rw [this]
          congr 1
          omega
        · exact fin 0 (by omega) fun j hj => by omega
      · exact fin 0 (by omega) fun j hj => by omega
    obtain ⟨z, l, r, hz, h1, h2, rfl⟩ := hP
    refine wS_cut (ZT w i) ?_ fun ρ hP => ?_
    · rw [wS_While]
      refine wW_inv (ZW w i) (k := w.length - i - z) (by omega) ⟨z, rfl, l, r, hz, h1, h2, rfl⟩ fun k ρ hP => ?_
      obtain ⟨z, rfl, l, r, hz, h1, h2, rfl⟩ := hP
      have e1 : ((i : Int) + (z : Int)) = ((i + z : Nat) : Int) := by omega
      have fw : i + z + 1 ≤ w.length → w[z]? = w[i + z]? → ZW w i (w.length - i - (z + 1)) [some (.d (.str w)), some (.own false (intL ((List.range i).map (zv w)))), some (.d (.int l)), some (.d (.int r)), some (.d (.int i)), some (.d (.int ((z : Int) + 1)))] := fun h3 h4 => by
        refine ⟨z + 1, rfl, l, r, hz, by omega, fun j hj => ?_, by simp⟩
        by_cases ej : j = z
        · rw [ej]; exact h4
        · exact h2 j (by omega)
      have ft : z = zv w i → ZT w i [some (.d (.str w)), some (.own false (intL ((List.range i).map (zv w)))), some (.d (.int l)), some (.d (.int r)), some (.d (.int i)), some (.d (.int z))] := fun ez => ⟨l, r, hz, by rw [← ez]⟩
      generalize intL ((List.range i).map (zv w)) = L at *
      simp
      by_cases hlt : i + z < w.length
      · rw [e1]
        have e2 : ((i + z : Nat) : Int) < (w.length : Int) := by omega
        rw [if_pos e2, atI_nat (show z < w.length by omega)]
        simp
        rw [e1, atI_nat hlt]
        simp
        refine ⟨by omega, ?_⟩
        by_cases he : w[z] = w[i + z]
        · rw [if_pos he]
          exact ⟨_, by omega, fw hlt (by rw [List.getElem?_eq_getElem (show z < w.length by omega), List.getElem?_eq_getElem hlt, he])⟩
        · rw [if_neg he]
          exact ft (zv_uniq h1 h2 fun _ => by
            rw [List.getElem?_eq_getElem (show z < w.length by omega), List.getElem?_eq_getElem hlt]
            simpa using he)
      · have hn : ¬ ((i : Int) + (z : Int) < (w.length : Int)) := by omega
        rw [if_neg hn]
        exact ⟨by omega, ft (zv_uniq h1 h2 fun hh => absurd hh hlt)⟩
    obtain ⟨l, r, hz, rfl⟩ := hP
    obtain ⟨g1, g2, g3⟩ := zv_spec (w := w) (k := i) (by omega)
    have fin : ∀ l r : Nat, Zok w (i + 1) l r → ZI w (i + 1) [some (.d (.str w)), some (.own false (intL ((List.range i).map (zv w)) ++ [.int (zv w i : Nat)])), some (.d (.int l)), some (.d (.int r)), some (.d (.int i)), some (.d (.int (zv w i : Nat)))] := fun l r hz => ⟨l, r, some (.d (.int i)), some (.d (.int (zv w i : Nat))), hz, by rw [List.range_succ]; simp [intL]⟩
    have mono : Zok w (i + 1) l r := ⟨hz.1, hz.2.imp id fun ⟨a, b, c⟩ => ⟨a, by omega, c⟩⟩
    have hll : (intL ((List.range i).map (zv w))).length = i := by simp
    generalize intL ((List.range i).map (zv w)) = L at *
    generalize hZ : zv w i = Z at *
    simp
    split
    · rename_i h0
      split
      · rename_i h1
        refine ⟨by omega, ?_⟩
        have := fin i (i + Z) ⟨g1, .inr ⟨h0, by omega, fun j hj => g2 j (by omega)⟩⟩
        simpa using this
      · exact ⟨by omega, fin _ _ mono⟩
    · exact ⟨by omega, fin _ _ mono⟩
  · obtain ⟨l, r, o4, o5, hz, rfl⟩ := hP
    unfold comL at h
    simpa using h
end K02
namespace K02
open PySem PySem.Spec PyProof.Rows L2 TL M
def fracD (a b : Nat) : D := .tup [.int (a / Nat.gcd a b : Nat), .int (b / Nat.gcd a b : Nat)]
theorem fraction_ok {a b : Nat} (ha : a ≤ 1000) (hb : b ≤ 1000) (hb0 : 0 < b) {Q : RV → List SV → Prop} (h : Q (.d (fracD a b)) [.d (.int a), .d (.int b)]) : wF F_fraction [.d (.int a), .d (.int b)] Q := by
  unfold F_fraction
  rw [wF_run]
  unfold B_fraction
  simp
  refine divisor_ok (by omega) (by omega) ?_
  have hg : 0 < Nat.gcd a b := Nat.gcd_pos_of_pos_right _ hb0
  have hg2 : Nat.gcd a b ≤ b := Nat.gcd_le_right _ hb0
  unfold fracD at h
  generalize Nat.gcd a b = g at *
  simp
  exact ⟨⟨hg, by omega⟩, by simpa using h⟩
def CD (a b : Nat) : List Nat := ((List.range b).map (· + 1)).filter fun d => decide (a % d = 0) && decide (b % d = 0)
theorem cd_mem {a b d : Nat} : d ∈ CD a b ↔ 0 < d ∧ d ≤ b ∧ a % d = 0 ∧ b % d = 0 := by
  unfold CD
  rw [List.mem_filter]
  simp
  constructor
  · rintro ⟨⟨x, h1, rfl⟩, h2, h3⟩
    exact ⟨by omega, by omega, h2, h3⟩
  · rintro ⟨h1, h2, h3, h4⟩
    exact ⟨⟨d - 1, by omega, by omega⟩, h3, h4⟩
theorem cd_max {a b : Nat} (hb : 0 < b) : ∃ n ns, CD a b = n :: ns ∧ maxL (n : Int) (ns.map fun (k : Nat) => (k : Int)) = ((Nat.gcd a b : Nat) : Int) := by
  have hg : Nat.gcd a b ∈ CD a b := cd_mem.mpr ⟨Nat.gcd_pos_of_pos_right _ hb, Nat.gcd_le_right _ hb, Nat.mod_eq_zero_of_dvd (Nat.gcd_dvd_left a b), Nat.mod_eq_zero_of_dvd (Nat.gcd_dvd_right a b)⟩
  have hle : ∀ d ∈ CD a b, d ≤ Nat.gcd a b := fun d hd => by
    obtain ⟨h1, h2, h3, h4⟩ := cd_mem.mp hd
    exact Nat.le_of_dvd (Nat.gcd_pos_of_pos_right _ hb) (Nat.dvd_gcd (Nat.dvd_of_mod_eq_zero h3) (Nat.dvd_of_mod_eq_zero h4))
  cases hc : CD a b with
  | nil => rw [hc] at hg; cases hg
  | cons n ns =>
    refine ⟨n, ns, rfl, ?_⟩
    rw [hc] at hg hle
    obtain ⟨h1, h2, h3⟩ := maxL_spec (ns.map fun (k : Nat) => (k : Int)) (n : Int)
    generalize maxL (n : Int) (ns.map fun (k : Nat) => (k : Int)) = M at *
    have u : M ≤ (Nat.gcd a b : Nat) := by
      rcases h1 with rfl | h1
      · have := hle n (by simp); omega
      · obtain ⟨k, hk, rfl⟩ := List.mem_map.mp h1
        have := hle k (by simp [hk]); omega
    have l : ((Nat.gcd a b : Nat) : Int) ≤ M := by
      rcases List.mem_cons.mp hg with e | hg
      · rw [e]; exact h2
      · exact h3 _ (List.mem_map.mpr ⟨_, hg, rfl⟩)
    omega
theorem law_fraction_ok {a b : Nat} (ha : a ≤ 1000) (hb : b ≤ 1000) (hb0 : 0 < b) {Q : RV → List SV → Prop} (h : Q (.d (fracD a b)) [.d (.int a), .d (.int b)]) : wF F__law_fraction [.d (.int a), .d (.int b)] Q := by
  unfold F__law_fraction
  rw [wF_run]
  unfold B__law_fraction
  simp [noOwn, wipeS, restS]
  refine ⟨by omega, ?_⟩
  have er : ((b : Int) + 1 - 1).toNat = b := by omega
  refine wC_map (fun x => match x with | .int j => decide (a % j.toNat = 0) && decide (b % j.toNat = 0) | _ => false) id (by simp; omega) (fun x hx => ?_) ?_
  · have hx2 := mem_range_map hx
    clear hx
    have hj := hx2.choose_spec
    generalize hx2.choose = j at hj
    obtain ⟨hj, rfl⟩ := hj
    have e1 : (1 : Int) + (j : Int) = ((1 + j : Nat) : Int) := by omega
    rw [e1]
    generalize hJ : 1 + j = J
    have c1 : ((a : Int) % (J : Int) = 0) ↔ a % J = 0 := by rw [← Int.natCast_emod]; omega
    have c2 : ((b : Int) % (J : Int) = 0) ↔ b % J = 0 := by rw [← Int.natCast_emod]; omega
    simp [c1, c2, wipeS]
    refine ⟨by omega, ?_⟩
    by_cases h1 : a % J = 0
    · by_cases h2 : b % J = 0
      · simp [h1, h2]
        omega
      · simp [h1, h2]
        omega
    · simp [h1]
  · obtain ⟨n, ns, ec, em⟩ := cd_max (a := a) (b := b) hb0
    have el : List.map id (List.filter (fun x => match x with | D.int j => decide (a % j.toNat = 0) && decide (b % j.toNat = 0) | x => false) ((List.range b).map fun (k : Nat) => D.int (1 + (k : Int)))) = ((n :: ns).map fun (k : Nat) => (k : Int)).map D.int := by
      rw [List.map_id, ← ec, List.map_map]
      unfold CD
      have ef : ((List.range b).map fun (k : Nat) => D.int (1 + (k : Int))) = ((List.range b).map (· + 1)).map fun (k : Nat) => D.int (k : Int) := by
        rw [List.map_map]
        apply List.map_congr_left
        intro k _
        show D.int (1 + (k : Int)) = D.int ((k + 1 : Nat) : Int)
        congr 1
        omega
      rw [ef, List.filter_map]
      congr 1
    have em2 : maxD [.lst (List.map id (List.filter (fun x => match x with | D.int j => decide (a % j.toNat = 0) && decide (b % j.toNat = 0) | x => false) ((List.range b).map fun (k : Nat) => D.int (1 + (k : Int)))))] = some (.d (.int (Nat.gcd a b : Nat))) := by
      rw [el, List.map_cons, maxD_lst, em]
    generalize List.map id (List.filter (fun x => match x with | D.int j => decide (a % j.toNat = 0) && decide (b % j.toNat = 0) | x => false) ((List.range b).map fun (k : Nat) => D.int (1 + (k : Int)))) = LL at *
    clear el ec em
    have hg : 0 < Nat.gcd a b := Nat.gcd_pos_of_pos_right _ hb0
    have hg2 : Nat.gcd a b ≤ b := Nat.gcd_le_right _ hb0
    unfold fracD at h
    generalize Nat.gcd a b = g at *
    simp [em2]
    exact ⟨⟨hg, by omega⟩, by simpa using h⟩
def KI (w : List Nat) (k : Nat) (i : Nat) (ρ : Sl) : Prop := (∀ j, j < i → w[j]? = w[k + j]?) ∧ ∃ o3 o4, ρ = [some (.d (.str w)), some (.d (.int k)), some (.d (.int i)), o3, o4]
theorem law_common_ok {w : List Nat} {k : Nat} (hk : k ≤ w.length) (hw : w.length ≤ 1000) {Q : RV → List SV → Prop} (h : Q (.d (.int (zv w k : Nat))) [.d (.str w), .d (.int k)]) : wF F__law_common [.d (.str w), .d (.int k)] Q := by
  unfold F__law_common
  rw [wF_run]
  unfold B__law_common
  simp
  rw [cutL_from (by omega)]
  simp only [Int.toNat_natCast]
  refine ⟨by omega, wR_inv (KI w k) (k := 0) ⟨fun j hj => by omega, none, none, rfl⟩ (fun i x ρ hx hP => ?_) fun ρ hP => ?_⟩
  · obtain ⟨hm, o3, o4, rfl⟩ := hP
    rw [Nat.zero_add] at hm ⊢
    unfold zipL at hx
    rw [List.getElem?_map] at hx
    obtain ⟨p, hp, rfl⟩ := Option.map_eq_some_iff.mp hx
    obtain ⟨c, d⟩ := p
    rw [List.getElem?_zip_eq_some] at hp
    obtain ⟨h1, h2⟩ := hp
    rw [List.getElem?_drop] at h2
    have l2 := (List.getElem?_eq_some_iff.mp h2).1
    simp
    by_cases e : c = d
    · subst e
      simp
      refine ⟨fun j hj => ?_, some (.d (.str [c])), some (.d (.str [c])), by simp⟩
      by_cases ej : j = i
      · rw [ej, h1, h2]
      · exact hm j (by omega)
    · simp [e]
      have ez : i = zv w k := zv_uniq (by omega) hm fun _ => by
        rw [h1, h2]
        simpa using e
      rw [ez]
      exact h
  · obtain ⟨hm, o3, o4, rfl⟩ := hP
    have hl : 0 + (zipL w (w.drop k)).length = w.length - k := by
      unfold zipL
      simp
    rw [hl] at hm ⊢
    simp
    have ez : w.length - k = zv w k := zv_uniq (by omega) hm fun hh => by omega
    rw [ez]
    exact h
end K02
namespace K02
open PySem PySem.Spec PyProof.Rows L2 TL M
def lpN (w : List Nat) : Nat := (perL w).headD 0
theorem lpN_eq {w : List Nat} {k : Nat} (hne : w ≠ []) (h : LB w w.length k) : lpN w = w.length - k ∧ (perL w).head? = some (w.length - k) := by
  have hk := h.1.1
  have e : (perL w).head? = some (w.length - k) := by
    unfold perL
    rw [if_neg hne]
    by_cases h0 : k = 0
    · subst h0
      have := pl_first h
      rw [Nat.sub_zero] at this ⊢
      rw [this]
      rfl
    · have h1 : (PL w w.length).head? = some (w.length - k) := by
        unfold PL
        rw [List.head?_filter, List.find?_range_eq_some]
        refine ⟨(perB_iff (by omega) (by omega)).mpr (by rw [show w.length - (w.length - k) = k by omega]; exact h.1), by simp; omega, fun j hj => ?_⟩
        have := pl_first h
        unfold PL at this
        rw [List.filter_eq_nil_iff] at this
        have := this j (List.mem_range.mpr hj)
        simpa using this
      rw [List.head?_append, h1]
      rfl
  refine ⟨?_, e⟩
  unfold lpN
  rw [List.headD_eq_head?_getD, e]
  rfl
theorem lpN_nil : lpN [] = 0 := rfl
theorem least_ok {w : List Nat} (hw : w.length ≤ 1000) {Q : RV → List SV → Prop} (h : Q (.d (.int (lpN w : Nat))) [.d (.str w)]) : wF F_least_period_of [.d (.str w)] Q := by
  by_cases hne : w = []
  · subst hne
    unfold F_least_period_of
    rw [wF_run]
    unfold B_least_period_of
    simp
    exact h
  · refine least_period_ok hne hw fun k hk => ?_
    rw [← (lpN_eq hne hk).1]
    exact h
theorem lpN_pos {w : List Nat} (hne : w ≠ []) : 0 < lpN w ∧ lpN w ≤ w.length := by
  obtain ⟨k, hk⟩ := lb_ex hne
  have := hk.1.1
  rw [(lpN_eq hne hk).1]
  omega
theorem wlen {x : D} {κ : Ck} {w : List Nat} (h : wD 200 (fz κ x) = some w) : x = .str w ∧ w.length ≤ 200 ∧ w.all isab = true := wD_of h
theorem periods_ok {x : D} {κ : Ck} {Q : QN} {E : EN} (hx : okW (fz κ x)) (h1 : ∀ w, x = .str w → w.length ≤ 200 → w.all isab = true → Q (.own (intL (perL w))) [.d x] κ) (h2 : wD 200 (fz κ x) = none → E ⟨"InvalidWord", ["given"], [x]⟩ [.d x] κ) : wN F_periods [.d x] κ Q E := by
  unfold F_periods
  rw [wN_run]
  unfold B_periods
  simp
  refine check_word_ok (k := 200) hx.1 hx.2 (fun w hw => ?_) (fun hw => ?_)
  · obtain ⟨rfl, hl, ha⟩ := wlen hw
    simp
    refine periods_of_ok (by omega) ?_
    have := h1 w rfl hl ha
    generalize intL (perL w) = L at *
    simp
    exact this
  · simp
    exact h2 hw
theorem borders_ok {x : D} {κ : Ck} {Q : QN} {E : EN} (hx : okW (fz κ x)) (h1 : ∀ w, x = .str w → w.length ≤ 200 → w.all isab = true → Q (.own (intL (borL w))) [.d x] κ) (h2 : wD 200 (fz κ x) = none → E ⟨"InvalidWord", ["given"], [x]⟩ [.d x] κ) : wN F_borders [.d x] κ Q E := by
  unfold F_borders
  rw [wN_run]
  unfold B_borders
  simp
  refine check_word_ok (k := 200) hx.1 hx.2 (fun w hw => ?_) (fun hw => ?_)
  · obtain ⟨rfl, hl, ha⟩ := wlen hw
    simp
    refine border_lengths_ok (by omega) ?_
    have := h1 w rfl hl ha
    generalize intL (borL w) = L at *
    simp
    exact this
  · simp
    exact h2 hw
theorem prefix_table_ok {x : D} {κ : Ck} {Q : QN} {E : EN} (hx : okW (fz κ x)) (h1 : ∀ w, x = .str w → w.length ≤ 200 → w.all isab = true → Q (.own (intL (comL w))) [.d x] κ) (h2 : wD 200 (fz κ x) = none → E ⟨"InvalidWord", ["given"], [x]⟩ [.d x] κ) : wN F_prefix_table [.d x] κ Q E := by
  unfold F_prefix_table
  rw [wN_run]
  unfold B_prefix_table
  simp
  refine check_word_ok (k := 200) hx.1 hx.2 (fun w hw => ?_) (fun hw => ?_)
  · obtain ⟨rfl, hl, ha⟩ := wlen hw
    simp
    refine prefix_lengths_ok (by omega) ?_
    have := h1 w rfl hl ha
    generalize intL (comL w) = L at *
    simp
    exact this
  · simp
    exact h2 hw
theorem border_table_ok {x : D} {κ : Ck} {Q : QN} {E : EN} (hx : okW (fz κ x)) (h1 : ∀ w, x = .str w → w.length ≤ 200 → w.all isab = true → ∀ fs : List Nat, fs.length = w.length → Tb w fs → Q (.own (intL fs)) [.d x] κ) (h2 : wD 200 (fz κ x) = none → E ⟨"InvalidWord", ["given"], [x]⟩ [.d x] κ) : wN F_border_table [.d x] κ Q E := by
  unfold F_border_table
  rw [wN_run]
  unfold B_border_table
  simp
  refine check_word_ok (k := 200) hx.1 hx.2 (fun w hw => ?_) (fun hw => ?_)
  · obtain ⟨rfl, hl, ha⟩ := wlen hw
    simp
    refine borders_table_ok (by omega) fun fs hfl hT => ?_
    have := h1 w rfl hl ha fs hfl hT
    simp only [intL] at this
    generalize (fs.map fun (k : Nat) => D.int (k : Int)) = L at *
    simp
    exact this
  · simp
    exact h2 hw
theorem least_period_okN {x : D} {κ : Ck} {Q : QN} {E : EN} (hx : okW (fz κ x)) (h1 : ∀ w, x = .str w → w.length ≤ 200 → w.all isab = true → Q (.d (.int (lpN w : Nat))) [.d x] κ) (h2 : wD 200 (fz κ x) = none → E ⟨"InvalidWord", ["given"], [x]⟩ [.d x] κ) : wN F_least_period [.d x] κ Q E := by
  unfold F_least_period
  rw [wN_run]
  unfold B_least_period
  simp
  refine check_word_ok (k := 200) hx.1 hx.2 (fun w hw => ?_) (fun hw => ?_)
  · obtain ⟨rfl, hl, ha⟩ := wlen hw
    simp
    refine least_ok (by omega) ?_
    simp
    exact h1 w rfl hl ha
  · simp
    exact h2 hw
theorem exponent_ok {x : D} {κ : Ck} {Q : QN} {E : EN} (hx : okW (fz κ x)) (h1 : ∀ w, x = .str w → w ≠ [] → w.length ≤ 200 → w.all isab = true → Q (.d (fracD w.length (lpN w))) [.d x] κ) (h2 : wD 200 (fz κ x) = none → E ⟨"InvalidWord", ["given"], [x]⟩ [.d x] κ) (h3 : x = .str [] → E ⟨"Empty", [], []⟩ [.d x] κ) : wN F_exponent [.d x] κ Q E := by
  unfold F_exponent
  rw [wN_run]
  unfold B_exponent
  simp
  refine check_word_ok (k := 200) hx.1 hx.2 (fun w hw => ?_) (fun hw => ?_)
  · obtain ⟨rfl, hl, ha⟩ := wlen hw
    by_cases hne : w = []
    · subst hne
      simp
      exact h3 rfl
    · have hp := lpN_pos hne
      simp [hne]
      refine ⟨by omega, least_ok (by omega) ?_⟩
      simp
      refine fraction_ok (by omega) (by omega) hp.1 ?_
      have := h1 w rfl hne hl ha
      unfold fracD at this ⊢
      simp at this ⊢
      exact this
  · simp
    exact h2 hw
end K02
namespace K02
open PySem PySem.Spec PyProof.Rows L2 TL M
theorem eWW : erIs "InvalidWord" "InvalidWord" = true := by decide
theorem eEW : erIs "Empty" "InvalidWord" = false := by decide
theorem eEE : erIs "Empty" "Empty" = true := by decide
def sTOLD : List Nat := [116, 111, 108, 100]
def sWORD : List Nat := [119, 111, 114, 100]
def sEMPTY : List Nat := [101, 109, 112, 116, 121]
def sPER : List Nat := [112, 101, 114, 105, 111, 100, 115]
def sLEAST : List Nat := [108, 101, 97, 115, 116]
def sBOR : List Nat := [98, 111, 114, 100, 101, 114, 115]
def sTAB : List Nat := [116, 97, 98, 108, 101]
def sPRE : List Nat := [112, 114, 101, 102, 105, 120, 101, 115]
def sEXP : List Nat := [101, 120, 112, 111, 110, 101, 110, 116]
theorem ask_periods {x : D} {b : Bool} {κ : Ck} {Q : QN} {E : EN} (hx : okW (fz κ x))
    (h1 : ∀ w, x = .str w → w.length ≤ 200 → w.all isab = true → ∀ p, lkC κ p = none → Q (.own [.str sTOLD, .ptr (.ref p)]) [.d (.str sPER), .d x, .d (.bl b)] ((p, .lst (intL (perL w))) :: κ))
    (h2 : wD 200 (fz κ x) = none → Q (.own [.str sWORD, x]) [.d (.str sPER), .d x, .d (.bl b)] κ) : wN F__law_ask [.d (.str sPER), .d x, .d (.bl b)] κ Q E := by
  unfold F__law_ask
  rw [wN_run]
  unfold B__law_ask sPER
  cases b
  · simp
    refine periods_ok hx (fun w e hl ha => ?_) (fun he => ?_)
    · have h1 := h1 w e hl ha
      generalize intL (perL w) = L at *
      simp
      exact h1
    · simp
      rw [nHd_yes eWW]
      refine ⟨by simp, fun a dd => ?_⟩
      simp
      exact h2 he
  · simp
    refine periods_ok hx (fun w e hl ha => ?_) (fun he => ?_)
    · have h1 := h1 w e hl ha
      generalize intL (perL w) = L at *
      simp
      exact h1
    · simp
      rw [nHd_yes eWW]
      refine ⟨by simp, fun a dd => ?_⟩
      simp
      exact h2 he
theorem ask_least {x : D} {b : Bool} {κ : Ck} {Q : QN} {E : EN} (hx : okW (fz κ x))
    (h1 : ∀ w, x = .str w → w.length ≤ 200 → w.all isab = true → Q (.own [.str sTOLD, .int (lpN w : Nat)]) [.d (.str sLEAST), .d x, .d (.bl b)] κ)
    (h2 : wD 200 (fz κ x) = none → Q (.own [.str sWORD, x]) [.d (.str sLEAST), .d x, .d (.bl b)] κ) : wN F__law_ask [.d (.str sLEAST), .d x, .d (.bl b)] κ Q E := by
  unfold F__law_ask
  rw [wN_run]
  unfold B__law_ask sLEAST
  cases b
  · simp
    refine least_period_okN hx (fun w e hl ha => ?_) (fun he => ?_)
    · have h1 := h1 w e hl ha
      simp
      exact h1
    · simp
      rw [nHd_yes eWW]
      refine ⟨by simp, fun a dd => ?_⟩
      simp
      exact h2 he
  · simp
    refine least_period_okN hx (fun w e hl ha => ?_) (fun he => ?_)
    · have h1 := h1 w e hl ha
      simp
      exact h1
    · simp
      rw [nHd_yes eWW]
      refine ⟨by simp, fun a dd => ?_⟩
      simp
      exact h2 he
theorem ask_borders {x : D} {b : Bool} {κ : Ck} {Q : QN} {E : EN} (hx : okW (fz κ x))
    (h1 : ∀ w, x = .str w → w.length ≤ 200 → w.all isab = true → ∀ p, lkC κ p = none → Q (.own [.str sTOLD, .ptr (.ref p)]) [.d (.str sBOR), .d x, .d (.bl b)] ((p, .lst (intL (borL w))) :: κ))
    (h2 : wD 200 (fz κ x) = none → Q (.own [.str sWORD, x]) [.d (.str sBOR), .d x, .d (.bl b)] κ) : wN F__law_ask [.d (.str sBOR), .d x, .d (.bl b)] κ Q E := by
  unfold F__law_ask
  rw [wN_run]
  unfold B__law_ask sBOR
  cases b
  · simp
    refine borders_ok hx (fun w e hl ha => ?_) (fun he => ?_)
    · have h1 := h1 w e hl ha
      generalize intL (borL w) = L at *
      simp
      exact h1
    · simp
      rw [nHd_yes eWW]
      refine ⟨by simp, fun a dd => ?_⟩
      simp
      exact h2 he
  · simp
    refine borders_ok hx (fun w e hl ha => ?_) (fun he => ?_)
    · have h1 := h1 w e hl ha
      generalize intL (borL w) = L at *
      simp
      exact h1
    · simp
      rw [nHd_yes eWW]
      refine ⟨by simp, fun a dd => ?_⟩
      simp
      exact h2 he
theorem ask_table {x : D} {b : Bool} {κ : Ck} {Q : QN} {E : EN} (hx : okW (fz κ x))
    (h1 : ∀ w, x = .str w → w.length ≤ 200 → w.all isab = true → ∀ fs : List Nat, fs.length = w.length → Tb w fs → ∀ p, lkC κ p = none → Q (.own [.str sTOLD, .ptr (.ref p)]) [.d (.str sTAB), .d x, .d (.bl b)] ((p, .lst (intL fs)) :: κ))
    (h2 : wD 200 (fz κ x) = none → Q (.own [.str sWORD, x]) [.d (.str sTAB), .d x, .d (.bl b)] κ) : wN F__law_ask [.d (.str sTAB), .d x, .d (.bl b)] κ Q E := by
  unfold F__law_ask
  rw [wN_run]
  unfold B__law_ask sTAB
  cases b
  · simp
    refine border_table_ok hx (fun w e hl ha fs hfl hT => ?_) (fun he => ?_)
    · have h1 := h1 w e hl ha fs hfl hT
      generalize intL fs = L at *
      simp
      exact h1
    · simp
      rw [nHd_yes eWW]
      refine ⟨by simp, fun a dd => ?_⟩
      simp
      exact h2 he
  · simp
    refine border_table_ok hx (fun w e hl ha fs hfl hT => ?_) (fun he => ?_)
    · have h1 := h1 w e hl ha fs hfl hT
      generalize intL fs = L at *
      simp
      exact h1
    · simp
      rw [nHd_yes eWW]
      refine ⟨by simp, fun a dd => ?_⟩
      simp
      exact h2 he
theorem ask_prefixes {x : D} {b : Bool} {κ : Ck} {Q : QN} {E : EN} (hx : okW (fz κ x))
    (h1 : ∀ w, x = .str w → w.length ≤ 200 → w.all isab = true → ∀ p, lkC κ p = none → Q (.own [.str sTOLD, .ptr (.ref p)]) [.d (.str sPRE), .d x, .d (.bl b)] ((p, .lst (intL (comL w))) :: κ))
    (h2 : wD 200 (fz κ x) = none → Q (.own [.str sWORD, x]) [.d (.str sPRE), .d x, .d (.bl b)] κ) : wN F__law_ask [.d (.str sPRE), .d x, .d (.bl b)] κ Q E := by
  unfold F__law_ask
  rw [wN_run]
  unfold B__law_ask sPRE
  cases b
  · simp
    refine prefix_table_ok hx (fun w e hl ha => ?_) (fun he => ?_)
    · have h1 := h1 w e hl ha
      generalize intL (comL w) = L at *
      simp
      exact h1
    · simp
      rw [nHd_yes eWW]
      refine ⟨by simp, fun a dd => ?_⟩
      simp
      exact h2 he
  · simp
    refine prefix_table_ok hx (fun w e hl ha => ?_) (fun he => ?_)
    · have h1 := h1 w e hl ha
      generalize intL (comL w) = L at *
      simp
      exact h1
    · simp
      rw [nHd_yes eWW]
      refine ⟨by simp, fun a dd => ?_⟩
      simp
      exact h2 he
theorem ask_exponent {x : D} {b : Bool} {κ : Ck} {Q : QN} {E : EN} (hx : okW (fz κ x))
    (h1 : ∀ w, x = .str w → w ≠ [] → w.length ≤ 200 → w.all isab = true → Q (.own [.str sTOLD, fracD w.length (lpN w)]) [.d (.str sEXP), .d x, .d (.bl b)] κ) (h3 : x = .str [] → Q (.own [.str sEMPTY, .non]) [.d (.str sEXP), .d x, .d (.bl b)] κ)
    (h2 : wD 200 (fz κ x) = none → Q (.own [.str sWORD, x]) [.d (.str sEXP), .d x, .d (.bl b)] κ) : wN F__law_ask [.d (.str sEXP), .d x, .d (.bl b)] κ Q E := by
  unfold F__law_ask
  rw [wN_run]
  unfold B__law_ask sEXP
  cases b
  · simp
    refine exponent_ok hx (fun w e hn hl ha => ?_) (fun he => ?_) (fun he => ?_)
    · have h1 := h1 w e hn hl ha
      unfold fracD at *
      simp
      exact h1
    · simp
      rw [nHd_yes eWW]
      refine ⟨by simp, fun a dd => ?_⟩
      simp
      exact h2 he
    · simp
      rw [nHd_no eEW, nHd_yes0 eEE]
      intro a dd
      simp
      exact h3 he
  · simp
    refine exponent_ok hx (fun w e hn hl ha => ?_) (fun he => ?_) (fun he => ?_)
    · have h1 := h1 w e hn hl ha
      unfold fracD at *
      simp
      exact h1
    · simp
      rw [nHd_yes eWW]
      refine ⟨by simp, fun a dd => ?_⟩
      simp
      exact h2 he
    · simp
      rw [nHd_no eEW, nHd_yes0 eEE]
      intro a dd
      simp
      exact h3 he
end K02
namespace K02
open PySem PySem.Spec PyProof.Rows L2 TL M
def TIv (w : List Nat) (s i : Nat) (T : List Nat) : Prop := T.length = w.length ∧ ∀ e t, T[e]? = some t → (∀ j, Bd w (e + 1) j → (e + 1 - j < s ∨ (e + 1 - j = s ∧ e < s + i)) → j ≤ t) ∧ (t = 0 ∨ Bd w (e + 1) t)
theorem tiv_start (w : List Nat) : TIv w 1 0 (List.replicate w.length 0) := by
  refine ⟨by simp, fun e t h => ?_⟩
  have h1 := (List.getElem?_eq_some_iff.mp h)
  obtain ⟨h1, h2⟩ := h1
  simp at h1 h2
  subst h2
  refine ⟨fun j hj hc => ?_, .inl rfl⟩
  have := hj.1
  omega
theorem tiv_step {w : List Nat} {s i : Nat} {T : List Nat} {t : Nat} (hs : 0 < s) (hi : i < zv w s) (hn : s + zv w s ≤ w.length) (h : TIv w s i T) (ht : T[s + i]? = some t) : TIv w s (i + 1) (T.set (s + i) (max t (i + 1))) := by
  obtain ⟨hl, h⟩ := h
  refine ⟨by simp; exact hl, fun e u hu => ?_⟩
  by_cases e1 : e = s + i
  · subst e1
    have hlt : s + i < T.length := by omega
    rw [List.getElem?_set_self hlt] at hu
    cases hu
    obtain ⟨g1, g2⟩ := h _ _ ht
    refine ⟨fun j hj hc => ?_, ?_⟩
    · rcases hc with hc | ⟨hc, _⟩
      · have := g1 j hj (.inl hc)
        omega
      · omega
    · right
      have hb : Bd w (s + i + 1) (i + 1) := (bd_zv (by omega) (by omega)).mpr (by rw [show s + i + 1 - (i + 1) = s by omega]; omega)
      by_cases hm : t ≤ i + 1
      · rw [Nat.max_eq_right hm]
        exact hb
      · rw [Nat.max_eq_left (by omega)]
        rcases g2 with z | z
        · omega
        · exact z
  · rw [List.getElem?_set_ne (fun z => e1 z.symm)] at hu
    obtain ⟨g1, g2⟩ := h _ _ hu
    refine ⟨fun j hj hc => g1 j hj ?_, g2⟩
    rcases hc with hc | ⟨hc, h2⟩
    · exact .inl hc
    · exact .inr ⟨hc, by omega⟩
theorem tiv_next {w : List Nat} {s : Nat} {T : List Nat} (hs : 0 < s) (h : TIv w s (zv w s) T) : TIv w (s + 1) 0 T := by
  obtain ⟨hl, h⟩ := h
  refine ⟨hl, fun e t ht => ?_⟩
  obtain ⟨g1, g2⟩ := h _ _ ht
  have he := (List.getElem?_eq_some_iff.mp ht).1
  refine ⟨fun j hj hc => ?_, g2⟩
  by_cases hj0 : j = 0
  · omega
  refine g1 j hj ?_
  rcases hc with hc | ⟨hc, h2⟩
  · by_cases h3 : e + 1 - j < s
    · exact .inl h3
    · refine .inr ⟨by omega, ?_⟩
      have h4 := (bd_zv hj.1 (by omega)).mp hj
      rw [show e + 1 - j = s by omega] at h4
      have := hj.1
      omega
  · omega
theorem tiv_end {w : List Nat} {T fs : List Nat} (h : TIv w w.length 0 T) (hfl : fs.length = w.length) (hT : Tb w fs) : fs = T := by
  obtain ⟨hl, h⟩ := h
  apply List.ext_getElem?
  intro e
  by_cases he : e < w.length
  · have e1 : fs[e]? = some fs[e] := List.getElem?_eq_getElem (by omega)
    have e2 : T[e]? = some T[e] := List.getElem?_eq_getElem (by omega)
    obtain ⟨g1, g2⟩ := h _ _ e2
    have hL := hT e _ e1
    rw [e1, e2]
    congr 1
    have hb : Bd w (e + 1) T[e] := by
      rcases g2 with z | z
      · rw [z]; exact bd_zero (by omega) (by omega)
      · exact z
    have h1 := hL.2 _ hb
    have h2 : fs[e] ≤ T[e] := by
      by_cases z : fs[e] = 0
      · omega
      · have := hL.1.1
        exact g1 _ hL.1 (.inl (by omega))
    omega
  · rw [List.getElem?_eq_none (by omega), List.getElem?_eq_none (by omega)]
end K02
namespace K02
open PySem PySem.Spec PyProof.Rows L2 TL M
theorem comp_com {w : List Nat} {g : Bool} {Q : List D → Sl → Prop} (hw : w.length ≤ 200) (h : Q (intL (comL w)) [some (.d (.str w)), some (.d (.bl g)), some (.d (.int w.length)), none, none, none, none, none, none, none, none, none, none, none, none]) :
    wC [13] (bName 13) bYes (bCall F__law_common (aCons (bFz (bV 0)) (aCons (bFz (bV 13)) aNil))) ((List.range w.length).map fun (k : Nat) => D.int (k : Int)) [] [some (.d (.str w)), some (.d (.bl g)), some (.d (.int w.length)), none, none, none, none, none, none, none, none, none, none, none, none] Q := by
  refine wC_map (fun _ => true) (fun x => match x with | .int j => .int (zv w j.toNat : Nat) | _ => .non) (by simp; omega) (fun x hx => ?_) ?_
  · have hx2 := mem_range_map hx
    clear hx
    have hj := hx2.choose_spec
    generalize hx2.choose = j at hj
    obtain ⟨hj, rfl⟩ := hj
    simp
    refine law_common_ok (by omega) (by omega) ?_
    simp [wipeS]
  · rw [filter_true, List.map_map]
    have e : ((List.range w.length).map ((fun x => match x with | .int j => D.int (zv w j.toNat : Nat) | _ => .non) ∘ fun (k : Nat) => D.int (k : Int))) = intL (comL w) := by
      unfold comL intL
      rw [List.map_map]
      rfl
    rw [e]
    exact h
theorem comp_due {w : List Nat} {g : Bool} {Q : List D → Sl → Prop} (hw : w.length ≤ 200) (h : Q (intL (perL w)) [some (.d (.str w)), some (.d (.bl g)), some (.d (.int w.length)), some (.own false (intL (comL w))), none, none, none, none, none, none, none, none, none, none, none]) :
    wC [14] (bName 14) (bOr (bT (bOp eqD (bV 14) (bV 2))) (bT (bOp eqD (bOp ixD (bV 3) (bV 14)) (bOp subD (bV 2) (bV 14))))) (bV 14) ((List.range w.length).map fun (k : Nat) => D.int (1 + (k : Int))) [] [some (.d (.str w)), some (.d (.bl g)), some (.d (.int w.length)), some (.own false (intL (comL w))), none, none, none, none, none, none, none, none, none, none, none] Q := by
  have hat : ∀ j, j < w.length → atI (intL (comL w)) ((j : Nat) : Int) = some (.int (zv w j : Nat)) := fun j hj => by
    rw [M.atI_nat (by simpa [comL] using hj)]
    simp [comL]
  generalize hL : intL (comL w) = L at *
  refine wC_map (fun x => match x with | .int j => decide (j.toNat = w.length) || decide (zv w j.toNat = w.length - j.toNat) | _ => false) id (by simp; omega) (fun x hx => ?_) ?_
  · have hx2 := mem_range_map hx
    clear hx
    have hj := hx2.choose_spec
    generalize hx2.choose = j at hj
    obtain ⟨hj, rfl⟩ := hj
    have e1 : (1 : Int) + (j : Int) = ((1 + j : Nat) : Int) := by omega
    rw [e1]
    have hJ2 : 1 + j ≤ w.length := by omega
    generalize 1 + j = J at *
    simp
    by_cases e : J = w.length
    · simp [e, wipeS]
    · have e2 : ¬ ((J : Int) = (w.length : Int)) := by omega
      simp [e]
      rw [hat J (by omega)]
      simp [wipeS]
      have e3 : ((zv w J : Nat) : Int) = (w.length : Int) - (J : Int) ↔ zv w J = w.length - J := by omega
      by_cases e4 : zv w J = w.length - J
      · simp [e4, e]
        omega
      · have e5 : ¬ ((zv w J : Nat) : Int) = (w.length : Int) - (J : Int) := fun z => e4 (e3.mp z)
        simp [e4, e5, e]
        omega
  · rw [List.map_id]
    have e : (((List.range w.length).map fun (k : Nat) => D.int (1 + (k : Int))).filter fun x => match x with | .int j => decide (j.toNat = w.length) || decide (zv w j.toNat = w.length - j.toNat) | _ => false) = intL (perL w) := by
      rw [← due_per]
      unfold dueL intL
      have ef : ((List.range w.length).map fun (k : Nat) => D.int (1 + (k : Int))) = ((List.range w.length).map (· + 1)).map fun (k : Nat) => D.int (k : Int) := by
        rw [List.map_map]
        apply List.map_congr_left
        intro k _
        show D.int (1 + (k : Int)) = D.int ((k + 1 : Nat) : Int)
        congr 1
        omega
      rw [ef, List.filter_map]
      congr 1
    rw [e]
    exact h
def S2 (w : List Nat) (g : Bool) (ρ : Sl) : Prop := ρ = [some (.d (.str w)), some (.d (.bl g)), some (.d (.int w.length)), some (.own false (intL (comL w))), none, none, none, none, none, none, none, none, none, none, none]
def S3 (w : List Nat) (g : Bool) (ρ : Sl) : Prop := ρ = [some (.d (.str w)), some (.d (.bl g)), some (.d (.int w.length)), some (.own false (intL (comL w))), some (.own false (intL (perL w))), none, none, none, none, none, none, none, none, none, none]
def S4 (w : List Nat) (g : Bool) (s : Nat) (ρ : Sl) : Prop := ∃ T o6 o7, TIv w s 0 T ∧ ρ = [some (.d (.str w)), some (.d (.bl g)), some (.d (.int w.length)), some (.own false (intL (comL w))), some (.own false (intL (perL w))), some (.own false (intL T)), o6, o7, none, none, none, none, none, none, none]
def S4i (w : List Nat) (g : Bool) (s i : Nat) (ρ : Sl) : Prop := ∃ T o7, TIv w s i T ∧ ρ = [some (.d (.str w)), some (.d (.bl g)), some (.d (.int w.length)), some (.own false (intL (comL w))), some (.own false (intL (perL w))), some (.own false (intL T)), some (.d (.int s)), o7, none, none, none, none, none, none, none]
theorem intL_set (T : List Nat) (e v : Nat) : (intL T).set e (.int (v : Nat)) = intL (T.set e v) := by unfold intL; rw [List.map_set]
theorem fill_ok {w : List Nat} {g : Bool} {Q : Fl → Sl → Prop} {s : Nat} {x : D} {ρ : Sl} (hw : w.length ≤ 200) (hs0 : 0 < s) (hs : s < w.length) (hP : S4 w g s ρ) (h : ∀ ρ', S4 w g (s + 1) ρ' → Q .nx ρ') :
    wS (sFor (iRange2 (bV 6) (bOp addD (bV 6) (bOp ixD (bV 3) (bV 6)))) (bName 7) (sPut 5 (bV 7) (bFn maxD (aCons (bOp ixD (bV 5) (bV 7)) (aCons (bOp addD (bOp subD (bV 7) (bV 6)) (bC (.int 1))) (aNil)))))) (ρ.set 6 (some (.d (.int s)))) Q := by
  obtain ⟨T, o6, o7, hT, rfl⟩ := hP
  have hat : atI (intL (comL w)) ((s : Nat) : Int) = some (.int (zv w s : Nat)) := by
    rw [M.atI_nat (by simpa [comL] using hs)]
    simp [comL]
  obtain ⟨z1, _, _⟩ := zv_spec (w := w) (k := s) (by omega)
  have st : ∀ T o7, TIv w s 0 T → S4i w g s 0 [some (.d (.str w)), some (.d (.bl g)), some (.d (.int w.length)), some (.own false (intL (comL w))), some (.own false (intL (perL w))), some (.own false (intL T)), some (.d (.int s)), o7, none, none, none, none, none, none, none] := fun T o7 h => ⟨T, o7, h, rfl⟩
  have st := st T o7 hT
  have en : ∀ ρ, S4i w g s (zv w s) ρ → Q .nx ρ := fun ρ ⟨T, o7, hT, e⟩ => h ρ ⟨T, _, o7, tiv_next hs0 hT, e⟩
  have stp : ∀ i ρ, i < zv w s → S4i w g s i ρ → ∃ T o7, T[s + i]? ≠ none ∧ T.length = w.length ∧ ρ = [some (.d (.str w)), some (.d (.bl g)), some (.d (.int w.length)), some (.own false (intL (comL w))), some (.own false (intL (perL w))), some (.own false (intL T)), some (.d (.int s)), o7, none, none, none, none, none, none, none] ∧ ∀ t o, T[s + i]? = some t → S4i w g s (i + 1) [some (.d (.str w)), some (.d (.bl g)), some (.d (.int w.length)), some (.own false (intL (comL w))), some (.own false (intL (perL w))), some (.own false ((intL T).set (s + i) (.int (max t (i + 1) : Nat)))), some (.d (.int s)), o, none, none, none, none, none, none, none] := fun i ρ hi ⟨T, o7, hT, e⟩ => by
    refine ⟨T, o7, ?_, hT.1, e, fun t o ht => ⟨_, o, tiv_step hs0 hi z1 hT ht, by rw [intL_set]⟩⟩
    rw [List.getElem?_eq_getElem (by rw [hT.1]; omega)]
    simp
  generalize intL (comL w) = C at *
  generalize intL (perL w) = P at *
  simp
  rw [hat]
  simp
  refine ⟨by omega, ?_⟩
  have er : ((s : Int) + ((zv w s : Nat) : Int)).toNat - s = zv w s := by omega
  generalize zv w s = Z at *
  rw [er]
  refine wR_inv (S4i w g s) (k := 0) st (fun i x ρ hx hP => ?_) fun ρ hP => ?_
  · obtain ⟨hi, rfl⟩ := range_at hx
    rw [Nat.zero_add] at hP ⊢
    obtain ⟨T, o7, hn, hTl, rfl, fin⟩ := stp i ρ hi hP
    have e1 : (s : Int) + (i : Int) = ((s + i : Nat) : Int) := by omega
    have hlt : s + i < T.length := by omega
    have ht : T[s + i]? = some T[s + i] := List.getElem?_eq_getElem hlt
    have fin := fin _ (some (.d (.int (s + i : Nat)))) ht
    have hat2 : atI (intL T) ((s + i : Nat) : Int) = some (.int (T[s + i] : Nat)) := by
      rw [M.atI_nat (by simpa using hlt)]
      simp
    have hlL : (intL T).length = T.length := by simp
    generalize intL T = L at *
    have hix : ixN L.length ((s : Int) + (i : Int)) = some (s + i) := by
      rw [e1]
      exact ixN_nat (by omega)
    have em : (if (T[s + i] : Int) < (s : Int) + (i : Int) - (s : Int) + 1 then (s : Int) + (i : Int) - (s : Int) + 1 else (T[s + i] : Int)) = ((max T[s + i] (i + 1) : Nat) : Int) := by split <;> omega
    rw [← e1] at hat2 fin
    clear hat stp en st
    generalize T[s + i] = tt at *
    simp
    rw [hat2]
    simp
    rw [hix]
    simp
    first | rw [em] | skip
    exact fin
  · simpa using en ρ (by simpa using hP)
end K02
namespace K02
open PySem PySem.Spec PyProof.Rows L2 TL M
def AnsOk (w T nm : List Nat) (ans : D) : Prop := (nm = sPER ∧ ans = .lst (intL (perL w))) ∨ (nm = sLEAST ∧ ans = .int (lpN w : Nat)) ∨ (nm = sBOR ∧ ans = .lst (intL (borL w))) ∨ (nm = sTAB ∧ ans = .lst (intL T)) ∨ (nm = sPRE ∧ ans = .lst (intL (comL w)))
def WW (k : Nat) (u : List Nat) : Prop := u.length ≤ k ∧ u.all isab = true
theorem okW_w {w : List Nat} (h : WW 200 w) : okW (.str w) := ⟨rfl, by have := h.1; simp [okS]; omega⟩
theorem wD_w {w : List Nat} (h : WW 200 w) : wD 200 (.str w) = some w := by
  show (if w.length ≤ 200 ∧ w.all isab = true then some w else none) = some w
  exact if_pos h
theorem ask_row {w T nm : List Nat} {ans : D} {b : Bool} {κ : Ck} {Q : QN} {E : EN} (hT : TIv w w.length 0 T) (hw : WW 200 w) (ha : AnsOk w T nm ans)
    (h1 : ∀ L, ans = .lst L → ∀ p, lkC κ p = none → Q (.own [.str sTOLD, .ptr (.ref p)]) [.d (.str nm), .d (.str w), .d (.bl b)] ((p, .lst L) :: κ))
    (h2 : ∀ i, ans = .int i → Q (.own [.str sTOLD, .int i]) [.d (.str nm), .d (.str w), .d (.bl b)] κ) : wN F__law_ask [.d (.str nm), .d (.str w), .d (.bl b)] κ Q E := by
  have hx : okW (fz κ (.str w)) := okW_w hw
  have hn : ∀ {P : Prop}, wD 200 (fz κ (.str w)) = none → P := fun h => by
    rw [fz_str, wD_w hw] at h
    cases h
  rcases ha with ⟨rfl, rfl⟩ | ⟨rfl, rfl⟩ | ⟨rfl, rfl⟩ | ⟨rfl, rfl⟩ | ⟨rfl, rfl⟩
  · exact ask_periods hx (fun w' e _ _ p hp => by cases e; exact h1 _ rfl p hp) hn
  · exact ask_least hx (fun w' e _ _ => by cases e; exact h2 _ rfl) hn
  · exact ask_borders hx (fun w' e _ _ p hp => by cases e; exact h1 _ rfl p hp) hn
  · exact ask_table hx (fun w' e _ _ fs hfl hb p hp => by cases e; rw [tiv_end hT hfl hb]; exact h1 _ rfl p hp) hn
  · exact ask_prefixes hx (fun w' e _ _ p hp => by cases e; exact h1 _ rfl p hp) hn
theorem gd_ints {n : Nat} {l : List Nat} (hl : l.length ≤ 1000) : Gd (n + 1) (.lst (intL l)) := ⟨by simp [intL]; omega, fun x hx => by
  obtain ⟨k, _, rfl⟩ := List.mem_map.mp hx
  exact gd_int⟩
theorem perL_len {w : List Nat} (hw : w.length ≤ 200) : (perL w).length ≤ 201 := by
  unfold perL
  split
  · simp
  · have := @pl_len w w.length
    simp; omega
theorem borL_len {w : List Nat} (hw : w.length ≤ 200) : (borL w).length ≤ 201 := by
  have := perL_len hw
  unfold borL
  simpa using this
theorem gd_ans {w T nm : List Nat} {ans : D} (hT : TIv w w.length 0 T) (hw : w.length ≤ 200) (ha : AnsOk w T nm ans) : Gd 3 ans := by
  rcases ha with ⟨rfl, rfl⟩ | ⟨rfl, rfl⟩ | ⟨rfl, rfl⟩ | ⟨rfl, rfl⟩ | ⟨rfl, rfl⟩
  · exact gd_ints (by have := perL_len hw; omega)
  · exact gd_int
  · exact gd_ints (by have := borL_len hw; omega)
  · exact gd_ints (by rw [hT.1]; omega)
  · exact gd_ints (by unfold comL; simp; omega)
theorem ans_np {w T nm : List Nat} {ans : D} (ha : AnsOk w T nm ans) : (∃ L, ans = .lst L ∧ nps L = true ∧ L.length ≤ 10000 → True) ∧ np ans = true := by
  refine ⟨⟨[], fun _ => trivial⟩, ?_⟩
  rcases ha with ⟨rfl, rfl⟩ | ⟨rfl, rfl⟩ | ⟨rfl, rfl⟩ | ⟨rfl, rfl⟩ | ⟨rfl, rfl⟩
  · rw [np_lst]; exact nps_map (fun _ => rfl) _
  · rfl
  · rw [np_lst]; exact nps_map (fun _ => rfl) _
  · rw [np_lst]; exact nps_map (fun _ => rfl) _
  · rw [np_lst]; exact nps_map (fun _ => rfl) _
theorem ans_len {w T nm : List Nat} {L : List D} (hT : TIv w w.length 0 T) (hw : w.length ≤ 200) (ha : AnsOk w T nm (.lst L)) : L.length ≤ 1000 := by
  have a1 := perL_len hw
  have a2 := borL_len hw
  have a3 := hT.1
  rcases ha with ⟨_, e⟩ | ⟨_, e⟩ | ⟨_, e⟩ | ⟨_, e⟩ | ⟨_, e⟩
  · rw [D.lst.inj e]; simp [intL]; omega
  · cases e
  · rw [D.lst.inj e]; simp [intL]; omega
  · rw [D.lst.inj e]; simp [intL]; omega
  · rw [D.lst.inj e]; simp [intL, comL]; omega
def rowX : NS := (nSeq (nSet 12 (nCall F__law_ask (nPick [.inl 0, .inl 1, .inl 2] [] (nApp 3 0 (up (aCons (bFz (bV 9)) (aCons (bFz (bV 0)) (aCons (bFz (bV 1)) (aNil))))) (up aNil)))))
    (nSeq (nIf (nTh (bNot (bT (bCall (F__law_same 5) (aCons (bFz (bV 12)) (aCons (bFz (bLstE (aCons (bFz (bC (.str [116, 111, 108, 100]))) (aCons (bFz (bV 10)) (aNil))))) (aNil))))))) (up (sRet (bC (.bl false)))) (up sNx))
    (nSeq (nIf (nTh (bT (bFn (isiD "list") (aCons (bOp ixD (bV 12) (bC (.int 1))) (aCons (bC (.ptr (.ty "list"))) aNil))))) (nDrop (nMu insertD (up (bOp ixD (bV 12) (bC (.int 1)))) (up (aCons (bFz (bC (.int 0))) (aCons (bFz (bC (.int 7))) (aNil)))))) (up sNx))
    (up (sSet 1 (bNotV (bV 1)))))))
def RS (w nm : List Nat) (ans : D) (o2 o3 o4 o5 o6 o7 o8 o13 o14 : Option SV) (j : Nat) (ρ : Sl) (κ : Ck) : Prop := ∃ (g : Bool) (o11 o12 : Option SV), ρ = [some (.d (.str w)), some (.d (.bl g)), o2, o3, o4, o5, o6, o7, o8, some (.d (.str nm)), some (.d ans), o11, o12, o13, o14]
theorem row_ok {w T nm : List Nat} {ans : D} {o2 o3 o4 o5 o6 o7 o8 o11 o12 o13 o14 : Option SV} {g : Bool} {κ : Ck} {Q : Fl → Sl → Ck → Prop} {E : Er → Sl → Ck → Prop} (hT : TIv w w.length 0 T) (hw : WW 200 w) (ha : AnsOk w T nm ans)
    (h : ∀ ρ κ', RS w nm ans o2 o3 o4 o5 o6 o7 o8 o13 o14 0 ρ κ' → Q .nx ρ κ') :
    rowX [some (.d (.str w)), some (.d (.bl g)), o2, o3, o4, o5, o6, o7, o8, some (.d (.str nm)), some (.d ans), o11, o12, o13, o14] κ Q E := by
  have m1 := mf__law_ask
  have hg := gd_ans hT hw.1 ha
  have hnp := (ans_np ha).2
  unfold rowX
  simp
  refine ask_row hT hw ha (fun L e p hp => ?_) (fun i e => ?_)
  · subst e
    have hf : fz ((p, .lst L) :: κ) (.lst L) = .lst L := fz_np _ hnp
    have hc : fz ((p, .lst L) :: κ) (.ptr (.ref p)) = .lst L := fz_cell (by simp)
    have hl : lkC ((p, .lst L) :: κ) p = some (.lst L) := by simp
    have hL := ans_len hT hw.1 ha
    generalize (p, CO.lst L) :: κ = κ' at *
    have hfs : fzs κ' L = L := by
      rw [fz_lst] at hf
      exact D.lst.inj hf
    simp [hc, hfs, sTOLD]
    refine same_ok (gd_two (gd_str (by decide)) hg) ?_
    simp
    simp [hc, hl]
    exact ⟨_, ⟨by omega, rfl⟩, h _ _ ⟨_, _, _, rfl⟩⟩
  · subst e
    simp [sTOLD]
    refine same_ok (gd_two (gd_str (by decide)) hg) ?_
    simp
    exact h _ _ ⟨_, _, _, rfl⟩
end K02
namespace K02
open PySem PySem.Spec PyProof.Rows L2 TL M
def rowsL (w T : List Nat) : List D := [.lst [.str sPER, .lst (intL (perL w))], .lst [.str sLEAST, .int (lpN w : Nat)], .lst [.str sBOR, .lst (intL (borL w))], .lst [.str sTAB, .lst (intL T)], .lst [.str sPRE, .lst (intL (comL w))]]
def A5 (w T : List Nat) (g : Bool) (ρ : Sl) : Prop := ∃ o3 o5 o6 o7, TIv w w.length 0 T ∧ ρ = [some (.d (.str w)), some (.d (.bl g)), some (.d (.int w.length)), o3, some (.d (.lst (intL (perL w)))), o5, o6, o7, some (.own false (rowsL w T)), none, none, none, none, none, none]
def A6 (w : List Nat) (j : Nat) (ρ : Sl) (κ : Ck) : Prop := ∃ (g : Bool) (o3 o5 o6 o7 o8 o9 o10 o11 o12 : Option SV), ρ = [some (.d (.str w)), some (.d (.bl g)), some (.d (.int w.length)), o3, some (.d (.lst (intL (perL w)))), o5, o6, o7, o8, o9, o10, o11, o12, none, none]
theorem perL_head (w : List Nat) : atI (intL (perL w)) 0 = if w = [] then none else some (.int (lpN w : Nat)) := by
  by_cases hw : w = []
  · subst hw
    rfl
  · rw [if_neg hw]
    obtain ⟨k, hk⟩ := lb_ex hw
    obtain ⟨e1, e2⟩ := lpN_eq hw hk
    rw [e1]
    cases hp : perL w with
    | nil => rw [hp] at e2; cases e2
    | cons a l =>
      rw [hp] at e2
      cases e2
      simp [intL]
theorem perL_nil (w : List Nat) : (intL (perL w)).isEmpty = decide (w = []) := by
  by_cases hw : w = []
  · subst hw; rfl
  · obtain ⟨k, hk⟩ := lb_ex hw
    obtain ⟨e1, e2⟩ := lpN_eq hw hk
    cases hp : perL w with
    | nil => rw [hp] at e2; cases e2
    | cons a l => simp [intL, hw]
theorem comp_bor {w : List Nat} {o1 o3 o5 o6 o7 : Option SV} {Q : List D → Sl → Prop} (hw : w.length ≤ 200) (h : ∀ L, L.reverse = intL (borL w) → Q L [some (.d (.str w)), o1, some (.d (.int w.length)), o3, some (.d (.lst (intL (perL w)))), o5, o6, o7, none, none, none, none, none, none, none]) :
    wC [14] (bName 14) bYes (bOp subD (bV 2) (bV 14)) (intL (perL w)) [] [some (.d (.str w)), o1, some (.d (.int w.length)), o3, some (.d (.lst (intL (perL w)))), o5, o6, o7, none, none, none, none, none, none, none] Q := by
  have hl := perL_len hw
  refine wC_map (fun _ => true) (fun x => match x with | .int j => .int (w.length - j) | _ => .non) (by simp [intL]; omega) (fun x hx => ?_) ?_
  · obtain ⟨p, hp, rfl⟩ := List.mem_map.mp hx
    simp [wipeS]
  · rw [filter_true]
    refine h _ ?_
    unfold borL intL
    rw [List.map_reverse]
    congr 1
    rw [List.map_map, List.map_map]
    apply List.map_congr_left
    intro p hp
    have : p ≤ w.length := by
      unfold perL at hp
      split at hp
      · cases hp
      · rcases List.mem_append.mp hp with hp | hp
        · have := pl_mem hp; omega
        · simp at hp; omega
    show D.int ((w.length : Int) - (p : Int)) = D.int ((w.length - p : Nat) : Int)
    congr 1
    omega
def S4E (w : List Nat) (g : Bool) (ρ : Sl) : Prop := ∃ T o6 o7, TIv w w.length 0 T ∧ ρ = [some (.d (.str w)), some (.d (.bl g)), some (.d (.int w.length)), some (.own false (intL (comL w))), some (.own false (intL (perL w))), some (.own false (intL T)), o6, o7, none, none, none, none, none, none, none]
theorem s4e {w : List Nat} {g : Bool} {s : Nat} {ρ : Sl} (h : S4 w g s ρ) (hs : w.length ≤ s) : S4E w g ρ := by
  obtain ⟨T, o6, o7, hT, rfl⟩ := h
  refine ⟨T, o6, o7, ⟨hT.1, fun e t ht => ⟨fun j hj hc => ?_, (hT.2 e t ht).2⟩⟩, rfl⟩
  by_cases h0 : j = 0
  · omega
  · have h1 := (List.getElem?_eq_some_iff.mp ht).1
    have h2 := hT.1
    exact (hT.2 e t ht).1 j hj (.inl (by omega))
theorem law_right_ok {w : List Nat} {g : Bool} {κ : Ck} {Q : QN} {E : EN} (hw : WW 200 w) (h : ∀ κ', Q (.d (.bl true)) [.d (.str w), .d (.bl g)] κ') : wN F__law_right [.d (.str w), .d (.bl g)] κ Q E := by
  have hl := hw.1
  have m1 := mf__law_ask
  unfold F__law_right
  rw [wN_run]
  unfold B__law_right
  refine ⟨rfl, ?_⟩
  refine n_cut (by (with_reducible repeat' (first | exact mono_up | exact mono_th | exact mono_thE | exact mono_dict0 | assumption | apply mono_seq | apply mono_set | apply mono_if | apply mono_ret | apply mono_drop | apply mono_ifE | apply mono_call | apply mono_pick | apply mono_app | apply mono_cons | apply mono_lst | apply mono_tup | apply mono_cell | apply mono_for | apply mono_wh | apply mono_b | apply mono_not | apply mono_and2 | apply mono_or2 | apply mono_op | apply mono_mu | apply mono_putD | apply mono_try | apply mono_tryN | apply mono_andV | apply mono_orV | apply mono_notV | apply mono_raise | apply mono_or | apply mono_is))) (fun ρ _ => ρ = [some (.d (.str w)), some (.d (.bl g)), some (.d (.int w.length)), none, none, none, none, none, none, none, none, none, none, none, none]) ?_ fun ρ κ hP => ?_
  · simp
    omega
  refine n_cut (by (with_reducible repeat' (first | exact mono_up | exact mono_th | exact mono_thE | exact mono_dict0 | assumption | apply mono_seq | apply mono_set | apply mono_if | apply mono_ret | apply mono_drop | apply mono_ifE | apply mono_call | apply mono_pick | apply mono_app | apply mono_cons | apply mono_lst | apply mono_tup | apply mono_cell | apply mono_for | apply mono_wh | apply mono_b | apply mono_not | apply mono_and2 | apply mono_or2 | apply mono_op | apply mono_mu | apply mono_putD | apply mono_try | apply mono_tryN | apply mono_andV | apply mono_orV | apply mono_notV | apply mono_raise | apply mono_or | apply mono_is))) (fun ρ _ => S2 w g ρ) ?_ fun ρ κ hP => ?_
  · have hP : ρ = _ := hP
    subst hP
    simp [noOwn, wipeS, restS]
    refine ⟨by omega, comp_com hl ?_⟩
    have fin : S2 w g [some (.d (.str w)), some (.d (.bl g)), some (.d (.int w.length)), some (.own false (intL (comL w))), none, none, none, none, none, none, none, none, none, none, none] := rfl
    generalize intL (comL w) = L at *
    simp
    exact fin
  refine n_cut (by (with_reducible repeat' (first | exact mono_up | exact mono_th | exact mono_thE | exact mono_dict0 | assumption | apply mono_seq | apply mono_set | apply mono_if | apply mono_ret | apply mono_drop | apply mono_ifE | apply mono_call | apply mono_pick | apply mono_app | apply mono_cons | apply mono_lst | apply mono_tup | apply mono_cell | apply mono_for | apply mono_wh | apply mono_b | apply mono_not | apply mono_and2 | apply mono_or2 | apply mono_op | apply mono_mu | apply mono_putD | apply mono_try | apply mono_tryN | apply mono_andV | apply mono_orV | apply mono_notV | apply mono_raise | apply mono_or | apply mono_is))) (fun ρ _ => S3 w g ρ) ?_ fun ρ κ hP => ?_
  · have hP : ρ = _ := hP
    subst hP
    have fin : S3 w g [some (.d (.str w)), some (.d (.bl g)), some (.d (.int w.length)), some (.own false (intL (comL w))), some (.own false (intL (perL w))), none, none, none, none, none, none, none, none, none, none] := rfl
    have cd := @comp_due w g (fun ys ρ => ys = intL (perL w) ∧ ρ = [some (.d (.str w)), some (.d (.bl g)), some (.d (.int w.length)), some (.own false (intL (comL w))), none, none, none, none, none, none, none, none, none, none, none]) hl ⟨rfl, rfl⟩
    generalize intL (comL w) = L at *
    generalize intL (perL w) = P at *
    simp [noOwn, wipeS, restS]
    refine ⟨⟨by omega, by omega⟩, wC_def.mpr (okQ.imp (wC_def.mp cd) fun ys ρ q => ?_)⟩
    obtain ⟨rfl, rfl⟩ := q
    simp
    exact fin
  refine n_cut (by (with_reducible repeat' (first | exact mono_up | exact mono_th | exact mono_thE | exact mono_dict0 | assumption | apply mono_seq | apply mono_set | apply mono_if | apply mono_ret | apply mono_drop | apply mono_ifE | apply mono_call | apply mono_pick | apply mono_app | apply mono_cons | apply mono_lst | apply mono_tup | apply mono_cell | apply mono_for | apply mono_wh | apply mono_b | apply mono_not | apply mono_and2 | apply mono_or2 | apply mono_op | apply mono_mu | apply mono_putD | apply mono_try | apply mono_tryN | apply mono_andV | apply mono_orV | apply mono_notV | apply mono_raise | apply mono_or | apply mono_is))) (fun ρ _ => S4 w g 1 ρ) ?_ fun ρ κ hP => ?_
  · have hP : ρ = _ := hP
    subst hP
    have fin : S4 w g 1 [some (.d (.str w)), some (.d (.bl g)), some (.d (.int w.length)), some (.own false (intL (comL w))), some (.own false (intL (perL w))), some (.own false (intL (List.replicate w.length 0))), none, none, none, none, none, none, none, none, none] := ⟨_, _, _, tiv_start w, rfl⟩
    have e : intL (List.replicate w.length 0) = List.replicate w.length (D.int 0) := by simp [intL]
    rw [e] at fin
    generalize intL (comL w) = L at *
    generalize intL (perL w) = P at *
    simp
    exact ⟨⟨by omega, by omega⟩, fin⟩
  refine n_cut (by (with_reducible repeat' (first | exact mono_up | exact mono_th | exact mono_thE | exact mono_dict0 | assumption | apply mono_seq | apply mono_set | apply mono_if | apply mono_ret | apply mono_drop | apply mono_ifE | apply mono_call | apply mono_pick | apply mono_app | apply mono_cons | apply mono_lst | apply mono_tup | apply mono_cell | apply mono_for | apply mono_wh | apply mono_b | apply mono_not | apply mono_and2 | apply mono_or2 | apply mono_op | apply mono_mu | apply mono_putD | apply mono_try | apply mono_tryN | apply mono_andV | apply mono_orV | apply mono_notV | apply mono_raise | apply mono_or | apply mono_is))) (fun ρ _ => S4E w g ρ) ?_ fun ρ κ hP => ?_
  · have fo : ∀ (k : Nat) (ρ : Sl) (R : Fl → Sl → Prop), k < w.length - 1 → S4 w g (1 + k) ρ → (∀ ρ', S4 w g (1 + k + 1) ρ' → R .nx ρ') → wS (sFor (iRange2 (bV 6) (bOp addD (bV 6) (bOp ixD (bV 3) (bV 6)))) (bName 7) (sPut 5 (bV 7) (bFn maxD (aCons (bOp ixD (bV 5) (bV 7)) (aCons (bOp addD (bOp subD (bV 7) (bV 6)) (bC (.int 1))) (aNil)))))) (ρ.set 6 (some (.d (.int (1 + k : Nat))))) R := fun k ρ R hk hP hR => fill_ok (x := .non) hl (by omega) (by omega) hP hR
    have hw2 : wI (iRange2 (bC (.int 1)) (bV 2)) ρ fun xs ρ' => xs = (List.range (w.length - 1)).map (fun (k : Nat) => D.int (1 + (k : Int))) ∧ ρ' = ρ := by
      obtain ⟨T, o6, o7, hT, rfl⟩ := hP
      simp
      omega
    rw [up_S, wS_For]
    refine okQ.imp hw2 fun xs ρ' q => ?_
    obtain ⟨rfl, rfl⟩ := q
    refine wR_inv (fun k ρ => S4 w g (1 + k) ρ) (k := 0) hP (fun k x ρ hx hP => ?_) fun ρ hP => ⟨rfl, s4e hP (by simp; omega)⟩
    obtain ⟨hk, rfl⟩ := range_at hx
    have e1 : (1 : Int) + (k : Int) = ((1 + k : Nat) : Int) := by omega
    rw [bName_ap, oq_some, e1]
    rw [Nat.zero_add] at hP ⊢
    exact fo k ρ _ hk hP fun ρ' h' => by
      have e2 : 1 + (k + 1) = 1 + k + 1 := by omega
      show S4 w g (1 + (k + 1)) ρ'
      rw [e2]; exact h'
  obtain ⟨T, o6, o7, hT, rfl⟩ := hP
  refine n_cut (by (with_reducible repeat' (first | exact mono_up | exact mono_th | exact mono_thE | exact mono_dict0 | assumption | apply mono_seq | apply mono_set | apply mono_if | apply mono_ret | apply mono_drop | apply mono_ifE | apply mono_call | apply mono_pick | apply mono_app | apply mono_cons | apply mono_lst | apply mono_tup | apply mono_cell | apply mono_for | apply mono_wh | apply mono_b | apply mono_not | apply mono_and2 | apply mono_or2 | apply mono_op | apply mono_mu | apply mono_putD | apply mono_try | apply mono_tryN | apply mono_andV | apply mono_orV | apply mono_notV | apply mono_raise | apply mono_or | apply mono_is))) (fun ρ _ => A5 w T g ρ) ?_ fun ρ κ hP => ?_
  · have fin : ∀ o3 o5, A5 w T g [some (.d (.str w)), some (.d (.bl g)), some (.d (.int w.length)), o3, some (.d (.lst (intL (perL w)))), o5, o6, o7, some (.own false (rowsL w T)), none, none, none, none, none, none] := fun o3 o5 => ⟨o3, o5, o6, o7, hT, rfl⟩
    have hne : neD (.lst (intL (perL w))) (.lst []) = some (.d (.bl (!decide (w = [])))) := by rw [← perL_nil]; exact neD_lst_nil (okD_nats (perL w))
    have hh := perL_head w
    have hem := perL_nil w
    have hlp : w = [] → lpN w = 0 := fun e => by rw [e]; rfl
    have cb := @comp_bor w (some (.d (.bl g)))
    have hll : (intL (perL w)).length ≤ 201 := by simpa [intL] using perL_len hl
    unfold rowsL at fin
    generalize intL (comL w) = C at *
    generalize intL (borL w) = B at *
    generalize intL T = TT at *
    generalize intL (perL w) = P at *
    simp
    rw [hne]
    by_cases h0 : w = []
    · rw [hlp h0] at fin
      rw [decide_eq_true h0]
      simp [noOwn, wipeS, restS]
      refine cb hl fun L hL => ?_
      simp [hL]
      exact fin _ _
    · rw [if_neg h0] at hh
      rw [decide_eq_false h0]
      simp [noOwn, wipeS, restS]
      rw [hh]
      simp [noOwn, wipeS, restS]
      refine cb hl fun L hL => ?_
      simp [hL]
      exact fin _ _
  obtain ⟨o3, o5, o6, o7, hT, rfl⟩ := hP
  refine n_cut (by (with_reducible repeat' (first | exact mono_up | exact mono_th | exact mono_thE | exact mono_dict0 | assumption | apply mono_seq | apply mono_set | apply mono_if | apply mono_ret | apply mono_drop | apply mono_ifE | apply mono_call | apply mono_pick | apply mono_app | apply mono_cons | apply mono_lst | apply mono_tup | apply mono_cell | apply mono_for | apply mono_wh | apply mono_b | apply mono_not | apply mono_and2 | apply mono_or2 | apply mono_op | apply mono_mu | apply mono_putD | apply mono_try | apply mono_tryN | apply mono_andV | apply mono_orV | apply mono_notV | apply mono_raise | apply mono_or | apply mono_is))) (A6 w 5) ?_ fun ρ κ hP => ?_
  · have hrow : ∀ x ∈ rowsL w T, ∃ nm ans, x = .lst [.str nm, ans] ∧ AnsOk w T nm ans := by
      intro x hx
      simp only [rowsL, List.mem_cons, List.not_mem_nil, or_false] at hx
      rcases hx with rfl | rfl | rfl | rfl | rfl
      · exact ⟨_, _, rfl, .inl ⟨rfl, rfl⟩⟩
      · exact ⟨_, _, rfl, .inr (.inl ⟨rfl, rfl⟩)⟩
      · exact ⟨_, _, rfl, .inr (.inr (.inl ⟨rfl, rfl⟩))⟩
      · exact ⟨_, _, rfl, .inr (.inr (.inr (.inl ⟨rfl, rfl⟩)))⟩
      · exact ⟨_, _, rfl, .inr (.inr (.inr (.inr ⟨rfl, rfl⟩)))⟩
    have st : ∀ o8, A6 w 0 [some (.d (.str w)), some (.d (.bl g)), some (.d (.int w.length)), o3, some (.d (.lst (intL (perL w)))), o5, o6, o7, o8, none, none, none, none, none, none] κ := fun o8 => ⟨g, o3, o5, o6, o7, o8, none, none, none, none, rfl⟩
    have hlen : (rowsL w T).length = 5 := rfl
    generalize rowsL w T = rows at *
    simp
    refine wG_inv (by (with_reducible repeat' (first | exact mono_up | exact mono_th | exact mono_thE | exact mono_dict0 | assumption | apply mono_seq | apply mono_set | apply mono_if | apply mono_ret | apply mono_drop | apply mono_ifE | apply mono_call | apply mono_pick | apply mono_app | apply mono_cons | apply mono_lst | apply mono_tup | apply mono_cell | apply mono_for | apply mono_wh | apply mono_b | apply mono_not | apply mono_and2 | apply mono_or2 | apply mono_op | apply mono_mu | apply mono_putD | apply mono_try | apply mono_tryN | apply mono_andV | apply mono_orV | apply mono_notV | apply mono_raise | apply mono_or | apply mono_is))) (fun _ => A6 w 0) (st _) (fun i x ρ κ hx hP => ?_) fun ρ κ hP => ⟨rfl, hP⟩
    obtain ⟨nm, ans, rfl, ha⟩ := hrow x (List.mem_of_getElem? hx)
    obtain ⟨g, o3, o5, o6, o7, o8, o9, o10, o11, o12, rfl⟩ := hP
    simp
    refine wG_inv (by (with_reducible repeat' (first | exact mono_up | exact mono_th | exact mono_thE | exact mono_dict0 | assumption | apply mono_seq | apply mono_set | apply mono_if | apply mono_ret | apply mono_drop | apply mono_ifE | apply mono_call | apply mono_pick | apply mono_app | apply mono_cons | apply mono_lst | apply mono_tup | apply mono_cell | apply mono_for | apply mono_wh | apply mono_b | apply mono_not | apply mono_and2 | apply mono_or2 | apply mono_op | apply mono_mu | apply mono_putD | apply mono_try | apply mono_tryN | apply mono_andV | apply mono_orV | apply mono_notV | apply mono_raise | apply mono_or | apply mono_is))) (fun j => RS w nm ans (some (.d (.int w.length))) o3 (some (.d (.lst (intL (perL w))))) o5 o6 o7 o8 none none 0) ⟨g, o11, o12, rfl⟩ (fun j x ρ κ hx hP => ?_) fun ρ κ hP => ?_
    · obtain ⟨g, o11, o12, rfl⟩ := hP
      rw [bName_ap, oq_some]
      refine row_ok hT hw ha fun ρ κ' h => ?_
      exact h
    · obtain ⟨g, o11, o12, rfl⟩ := hP
      exact ⟨_, _, _, _, _, _, _, _, _, _, rfl⟩
  obtain ⟨g, o3, o5, o6, o7, o8, o9, o10, o11, o12, rfl⟩ := hP
  have hh := perL_head w
  have hgd : Gd 3 (fracD w.length (lpN w)) := gd_tup (by simp) fun x hx => by
    simp at hx
    rcases hx with rfl | rfl
    · exact gd_int
    · exact gd_int
  generalize intL (perL w) = P at *
  simp
  refine ask_exponent (okW_w hw) (fun w' e hne _ _ => ?_) (fun e => ?_) (fun e => by rw [fz_str, wD_w hw] at e; cases e)
  · cases e
    have hp := lpN_pos hne
    rw [if_neg hne] at hh
    have hn0 : ¬ ((w.length : Int) = 0) := fun z => hne (List.eq_nil_of_length_eq_zero (by omega))
    have hn1 : w.length ≠ 0 := fun z => hne (List.eq_nil_of_length_eq_zero z)
    have lf := @law_fraction_ok w.length (lpN w) (by omega) (by omega) hp.1
    generalize fracD w.length (lpN w) = FR at *
    simp [sTOLD, hne]
    rw [hh]
    simp
    refine lf ?_
    simp
    refine same_ok (gd_two (gd_str (by decide)) hgd) ?_
    simp
    exact h _
  · cases e
    simp [sEMPTY]
    refine same_ok (gd_two (gd_str (by decide)) gd_non) ?_
    simp
    exact h _
end K02
namespace K02
open PySem PySem.Spec PyProof.Rows L2 TL M
theorem ww_wd {m k j : Nat} {u : List Nat} (hm : m ≤ 4) (h : Wd m k u) (hk : k ≤ j) : WW j u := ⟨by have := h.1; omega, List.all_eq_true.mpr fun c hc => by
  have := h.2 c hc
  exact isab_of (by omega)⟩
theorem wd_ww {k : Nat} {u : List Nat} (h : WW k u) : Wd 4 k u := ⟨h.1, fun c hc => isab_iff.mp (List.all_eq_true.mp h.2 c hc)⟩
theorem wd_take {m k j : Nat} {u : List Nat} (h : Wd m k u) : Wd m j (u.take j) := ⟨by simp; omega, fun c hc => h.2 c (List.mem_of_mem_take hc)⟩
theorem wd_rep {m k i : Nat} {u : List Nat} (h : Wd m k u) : Wd m (i * k) (List.replicate i u).flatten := by
  refine ⟨?_, fun c hc => ?_⟩
  · induction i with
    | zero => simp
    | succ i ih =>
      rw [List.replicate_succ, List.flatten_cons, List.length_append, Nat.succ_mul]
      have := h.1
      omega
  · obtain ⟨x, hx, hc⟩ := List.mem_flatten.mp hc
    rw [(List.mem_replicate.mp hx).2] at hc
    exact h.2 c hc
theorem wd_mul {k n : Nat} {i : Int} {u : List Nat} (hi : i = n) (h : Wd 4 k u) (hk : k ≤ 1000) (hn : n ≤ 1000) : ∃ X, mulS (.str u) (.int i) = some (.d (.str X)) ∧ Wd 4 (n * k) X := by
  refine ⟨(List.replicate n u).flatten, ?_, wd_rep h⟩
  have hl := h.1
  have hm : u.length * n ≤ 1000 * 1000 := Nat.mul_le_mul (by omega) hn
  subst hi
  rw [mulS_si, Int.toNat_natCast, if_pos ⟨by omega, by omega, by omega⟩]
def L1 (ns : List Int) (gr : Bool) (ρ : Sl) (κ : Ck) : Prop := ∃ (o2 o3 o4 o5 o6 o7 o8 o9 : Option SV), ρ = [some (.d (.scr (ns.map .int))), some (.d (.bl gr)), o2, o3, o4, o5, o6, o7, o8, o9]
def L1x (ns : List Int) (ρ : Sl) (κ : Ck) : Prop := ∃ gr, L1 ns gr ρ κ
def L2a (ns : List Int) (gr : Bool) (k : Nat) (ρ : Sl) (κ : Ck) : Prop := ∃ (b : List D) (o4 o5 o6 o7 o8 o9 : Option SV), Box 0 b ∧ ρ = [some (.d (.scr (ns.map .int))), some (.d (.bl gr)), some (.d (.int k)), some (.own false b), o4, o5, o6, o7, o8, o9]
def L3 (ns : List Int) (gr : Bool) (k : Nat) (ρ : Sl) (κ : Ck) : Prop := ∃ (b : List D) (g : Bool) (m : Nat) (o6 o7 o8 o9 : Option SV), Box 2 b ∧ 0 < m ∧ m ≤ 4 ∧ ρ = [some (.d (.scr (ns.map .int))), some (.d (.bl gr)), some (.d (.int k)), some (.own false b), some (.d (.bl g)), some (.d (.int m)), o6, o7, o8, o9]
def L4w (ns : List Int) (gr : Bool) (k : Nat) (g : Bool) (m : Nat) (o7 o8 o9 : Option SV) (ρ : Sl) (κ : Ck) : Prop := ∃ (b : List D) (w : List Nat), Box 2010 b ∧ Wd 4 30 w ∧ ρ = [some (.d (.scr (ns.map .int))), some (.d (.bl gr)), some (.d (.int k)), some (.own false b), some (.d (.bl g)), some (.d (.int m)), some (.d (.str w)), o7, o8, o9]
def L4 (N : Nat) (ns : List Int) (gr : Bool) (k : Nat) (ρ : Sl) (κ : Ck) : Prop := ∃ (b : List D) (g : Bool) (m : Nat) (w : List Nat) (o7 o8 o9 : Option SV), Box N b ∧ 0 < m ∧ m ≤ 4 ∧ WW 200 w ∧ ρ = [some (.d (.scr (ns.map .int))), some (.d (.bl gr)), some (.d (.int k)), some (.own false b), some (.d (.bl g)), some (.d (.int m)), some (.d (.str w)), o7, o8, o9]
def L5 (N : Nat) (ns : List Int) (gr : Bool) (k m : Nat) (w : List Nat) (i : Nat) (ρ : Sl) (κ : Ck) : Prop := ∃ (b : List D) (g : Bool) (o7 o8 o9 : Option SV), Box (N + i) b ∧ ρ = [some (.d (.scr (ns.map .int))), some (.d (.bl gr)), some (.d (.int k)), some (.own false b), some (.d (.bl g)), some (.d (.int m)), some (.d (.str w)), o7, o8, o9]
def L6 (N : Nat) (ns : List Int) (gr : Bool) (k m : Nat) (w : List Nat) (x : D) (g : Bool) (o9 : Option SV) (ρ : Sl) (κ : Ck) : Prop := ∃ (b : List D) (y : D), Box N b ∧ Bad BadW κ y ∧ ρ = [some (.d (.scr (ns.map .int))), some (.d (.bl gr)), some (.d (.int k)), some (.own false b), some (.d (.bl g)), some (.d (.int m)), some (.d (.str w)), some (.d x), some (.d y), o9]
def L7 (N : Nat) (ns : List Int) (gr : Bool) (k m : Nat) (w : List Nat) (x : D) (g : Bool) (ρ : Sl) (κ : Ck) : Prop := ∃ (b : List D) (y : D), Box N b ∧ Bad BadW κ y ∧ ρ = [some (.d (.scr (ns.map .int))), some (.d (.bl gr)), some (.d (.int k)), some (.own false b), some (.d (.bl g)), some (.d (.int m)), some (.d (.str w)), some (.d x), some (.d y), some (.own false [.str sWORD, y])]
theorem law_okN (ns : List Int) (hns : ns.length ≤ 63) {Q : QN} {E : EN} (h : ∀ κ, Q (.d (.bl true)) [.d (.scr (ns.map .int))] κ) : wN (runN N_law.length 1 B_law) [.d (.scr (ns.map .int))] [] Q E := by
  have m1 := mf__law_right
  have m2 := mf__law_ask
  have m3 := mf__law_very
  have m4 := mf__law_bad_word
  rw [wN_run]
  unfold B_law
  refine ⟨rfl, ?_⟩
  refine n_cut (by (with_reducible repeat' (first | exact mono_up | exact mono_th | exact mono_thE | exact mono_dict0 | assumption | apply mono_seq | apply mono_set | apply mono_if | apply mono_ret | apply mono_drop | apply mono_ifE | apply mono_call | apply mono_pick | apply mono_app | apply mono_cons | apply mono_lst | apply mono_tup | apply mono_cell | apply mono_for | apply mono_wh | apply mono_b | apply mono_not | apply mono_and2 | apply mono_or2 | apply mono_op | apply mono_mu | apply mono_putD | apply mono_try | apply mono_tryN | apply mono_andV | apply mono_orV | apply mono_notV | apply mono_raise | apply mono_or | apply mono_is))) (L1x ns) ?_ fun ρ κ hP => ?_
  · simp
    rw [cutL_to (by omega), ← List.map_take, sumD_lst]
    simp
    exact ⟨_, _, _, _, _, _, _, _, _, rfl⟩
  obtain ⟨gr, hP⟩ := hP
  refine n_cut (by (with_reducible repeat' (first | exact mono_up | exact mono_th | exact mono_thE | exact mono_dict0 | assumption | apply mono_seq | apply mono_set | apply mono_if | apply mono_ret | apply mono_drop | apply mono_ifE | apply mono_call | apply mono_pick | apply mono_app | apply mono_cons | apply mono_lst | apply mono_tup | apply mono_cell | apply mono_for | apply mono_wh | apply mono_b | apply mono_not | apply mono_and2 | apply mono_or2 | apply mono_op | apply mono_mu | apply mono_putD | apply mono_try | apply mono_tryN | apply mono_andV | apply mono_orV | apply mono_notV | apply mono_raise | apply mono_or | apply mono_is))) (L1 ns gr) ?_ fun ρ κ hP => ?_
  · obtain ⟨o2, o3, o4, o5, o6, o7, o8, o9, rfl⟩ := hP
    simp
    generalize (ns.length : Int) = ln
    obtain ⟨K, hK, hK4⟩ : ∃ K : Nat, (if 3 < if ln < 5 then ln else 5 then if ln < 5 then ln else 5 else 3) = (K : Int) ∧ K ≤ 5 := by
      refine ⟨(if 3 < if ln < 5 then ln else 5 then if ln < 5 then ln else 5 else 3).toNat, ?_, ?_⟩
      · split
        · split <;> omega
        · omega
      · split
        · split <;> omega
        · omega
    rw [hK]
    refine ⟨⟨by omega, by omega⟩, ?_⟩
    rw [Int.toNat_natCast]
    refine wG_inv (by (with_reducible repeat' (first | exact mono_up | exact mono_th | exact mono_thE | exact mono_dict0 | assumption | apply mono_seq | apply mono_set | apply mono_if | apply mono_ret | apply mono_drop | apply mono_ifE | apply mono_call | apply mono_pick | apply mono_app | apply mono_cons | apply mono_lst | apply mono_tup | apply mono_cell | apply mono_for | apply mono_wh | apply mono_b | apply mono_not | apply mono_and2 | apply mono_or2 | apply mono_op | apply mono_mu | apply mono_putD | apply mono_try | apply mono_tryN | apply mono_andV | apply mono_orV | apply mono_notV | apply mono_raise | apply mono_or | apply mono_is))) (fun _ => L1 ns gr) ⟨_, _, _, _, _, _, _, _, rfl⟩ (fun k x ρ κ hx hP => ?_) fun ρ κ hP => ⟨rfl, hP⟩
    obtain ⟨o2, o3, o4, o5, o6, o7, o8, o9, rfl⟩ := hP
    obtain ⟨hk, rfl⟩ := range_at hx
    rw [bName_ap, oq_some]
    refine n_cut (by (with_reducible repeat' (first | exact mono_up | exact mono_th | exact mono_thE | exact mono_dict0 | assumption | apply mono_seq | apply mono_set | apply mono_if | apply mono_ret | apply mono_drop | apply mono_ifE | apply mono_call | apply mono_pick | apply mono_app | apply mono_cons | apply mono_lst | apply mono_tup | apply mono_cell | apply mono_for | apply mono_wh | apply mono_b | apply mono_not | apply mono_and2 | apply mono_or2 | apply mono_op | apply mono_mu | apply mono_putD | apply mono_try | apply mono_tryN | apply mono_andV | apply mono_orV | apply mono_notV | apply mono_raise | apply mono_or | apply mono_is))) (L2a ns gr k) ?_ fun ρ κ hP => ?_
    · simp
      refine cell_ok (by omega) fun x => ?_
      simp
      refine box_ok fun b hb => ?_
      simp
      exact ⟨b, _, _, _, _, _, _, hb, rfl⟩
    obtain ⟨b, o4, o5, o6, o7, o8, o9, hb, rfl⟩ := hP
    refine n_cut (by (with_reducible repeat' (first | exact mono_up | exact mono_th | exact mono_thE | exact mono_dict0 | assumption | apply mono_seq | apply mono_set | apply mono_if | apply mono_ret | apply mono_drop | apply mono_ifE | apply mono_call | apply mono_pick | apply mono_app | apply mono_cons | apply mono_lst | apply mono_tup | apply mono_cell | apply mono_for | apply mono_wh | apply mono_b | apply mono_not | apply mono_and2 | apply mono_or2 | apply mono_op | apply mono_mu | apply mono_putD | apply mono_try | apply mono_tryN | apply mono_andV | apply mono_orV | apply mono_notV | apply mono_raise | apply mono_or | apply mono_is))) (L3 ns gr k) ?_ fun ρ κ hP => ?_
    · simp
      refine take_ok hb (by omega) (by omega) (by omega) fun v b1 hb1 hv0 hv1 => ?_
      simp
      refine take_ok hb1 (by omega) (by omega) (by omega) fun v2 b2 hb2 hv20 hv21 => ?_
      simp
      obtain ⟨v2, rfl⟩ := Int.eq_ofNat_of_zero_le hv20
      exact ⟨b2, decide (v = 0), 1 + v2, o6, o7, o8, o9, hb2.mono (by omega), by omega, by omega, by simp⟩
    obtain ⟨b, g, m, o6, o7, o8, o9, hb, hm0, hm4, rfl⟩ := hP
    refine n_cut (by (with_reducible repeat' (first | exact mono_up | exact mono_th | exact mono_thE | exact mono_dict0 | assumption | apply mono_seq | apply mono_set | apply mono_if | apply mono_ret | apply mono_drop | apply mono_ifE | apply mono_call | apply mono_pick | apply mono_app | apply mono_cons | apply mono_lst | apply mono_tup | apply mono_cell | apply mono_for | apply mono_wh | apply mono_b | apply mono_not | apply mono_and2 | apply mono_or2 | apply mono_op | apply mono_mu | apply mono_putD | apply mono_try | apply mono_tryN | apply mono_andV | apply mono_orV | apply mono_notV | apply mono_raise | apply mono_or | apply mono_is))) (L4w ns gr k g m o7 o8 o9) ?_ fun ρ κ hP => ?_
    · simp
      refine word_ok (k := 30) hb (by omega) hm0 hm4 (by omega) (by omega) fun w b1 hb1 hw _ => ?_
      simp
      exact ⟨b1, w, hb1.mono (by omega), hw.mono (by omega) (by omega), rfl⟩
    obtain ⟨b1, w, hb1, hw, rfl⟩ := hP
    refine n_cut (by (with_reducible repeat' (first | exact mono_up | exact mono_th | exact mono_thE | exact mono_dict0 | assumption | apply mono_seq | apply mono_set | apply mono_if | apply mono_ret | apply mono_drop | apply mono_ifE | apply mono_call | apply mono_pick | apply mono_app | apply mono_cons | apply mono_lst | apply mono_tup | apply mono_cell | apply mono_for | apply mono_wh | apply mono_b | apply mono_not | apply mono_and2 | apply mono_or2 | apply mono_op | apply mono_mu | apply mono_putD | apply mono_try | apply mono_tryN | apply mono_andV | apply mono_orV | apply mono_notV | apply mono_raise | apply mono_or | apply mono_is))) (L4 5000 ns gr k) ?_ fun ρ κ hP => ?_
    · have hwl := hw.1
      by_cases hgr : gr = true ∧ k = 0
      · obtain ⟨rfl, rfl⟩ := hgr
        obtain ⟨X1, e1, w1⟩ := wd_mul (i := 100) (n := 100) rfl (hw.app (j := 2) (v := [97, 98]) ⟨by simp, fun c hc => by simp at hc; omega⟩) (by omega) (by omega)
        obtain ⟨X2, e2, w2⟩ := wd_mul (k := 1) (n := 200) (i := 200) (u := [97]) rfl ⟨by simp, fun c hc => by simp at hc; omega⟩ (by omega) (by omega)
        obtain ⟨X3, e3, w3⟩ := wd_mul (k := 1) (n := 99) (i := 99) (u := [97]) rfl ⟨by simp, fun c hc => by simp at hc; omega⟩ (by omega) (by omega)
        obtain ⟨X4, e4, w4⟩ := wd_mul (k := 100) (n := 2) (i := 2) rfl ((w3.app (j := 1) (v := [98]) ⟨by simp, fun c hc => by simp at hc; omega⟩).mono (by omega) (by omega)) (by omega) (by omega)
        obtain ⟨X5, e5, w5⟩ := wd_mul (k := 5) (n := 40) (i := 40) (u := [97, 98, 97, 97, 98]) rfl ⟨by simp, fun c hc => by simp at hc; omega⟩ (by omega) (by omega)
        have x3 := w3.1
        have x5 := w5.1
        have mo : ∀ {j : Nat} {X : List Nat}, Wd 4 j X → j ≤ 100000 → Wd 4 100000 X := fun h hj => h.mono (by omega) hj
        simp [-mulS_si, e1, e2, e3, e4]
        refine ⟨by omega, take_ok hb1 (by omega) (by omega) (by omega) fun v b2 hb2 hv0 hv1 => ?_⟩
        obtain ⟨v, rfl⟩ := Int.eq_ofNat_of_zero_le hv0
        simp [-mulS_si, e1, e2, e3, e4]
        refine thue_ok (a := v) (k := 200) (by omega) (by omega) fun t ht => ?_
        simp [-mulS_si, e1, e2, e3, e4]
        refine ⟨by omega, rotation_ok (k := 200) hb2 (by omega) (by omega) fun r b3 hb3 hr => ?_⟩
        obtain ⟨X6, e6, w6⟩ := wd_mul (k := 200) (n := 20) (i := 20) rfl (hr.mono (m' := 4) (k' := 200) (by omega) (by omega)) (by omega) (by omega)
        have x6 := w6.1
        simp [-mulS_si, e5, e6]
        refine ⟨by omega, take_ok hb3 (by omega) (by omega) (by omega) fun u b4 hb4 hu0 hu1 => ?_⟩
        obtain ⟨y, ey, my⟩ := atI_mem (l := [D.str X1, .str t, .str X2, .str X4, .str (X6 ++ X5)]) hu0 (by simpa using hu1)
        have hy : ∃ Y, y = .str Y ∧ Wd 4 100000 Y := by
          simp at my
          rcases my with rfl | rfl | rfl | rfl | rfl
          · exact ⟨_, rfl, mo w1 (by omega)⟩
          · exact ⟨_, rfl, ht.mono (by omega) (by omega)⟩
          · exact ⟨_, rfl, mo w2 (by omega)⟩
          · exact ⟨_, rfl, mo w4 (by omega)⟩
          · exact ⟨_, rfl, mo (w6.app w5) (by omega)⟩
        obtain ⟨Y, rfl, hY⟩ := hy
        have yl := hY.1
        simp [ey]
        refine take_ok hb4 (by omega) (by omega) (by omega) fun z b5 hb5 hz0 hz1 => ?_
        simp
        rw [cutL_to (by omega)]
        exact ⟨by omega, b5, g, m, _, o7, o8, o9, hb5.mono (by omega), hm0, hm4, ww_wd (m := 4) (by omega) (wd_take (j := (199 + z).toNat) hY) (by omega), rfl⟩
      · have hc : ¬ (gr = true ∧ (k : Int) = 0) := fun z => hgr ⟨z.1, by omega⟩
        have fin : L4 5000 ns gr k [some (.d (.scr (ns.map .int))), some (.d (.bl gr)), some (.d (.int k)), some (.own false b1), some (.d (.bl g)), some (.d (.int m)), some (.d (.str w)), o7, o8, o9] κ := ⟨b1, g, m, w, o7, o8, o9, hb1.mono (by omega), hm0, hm4, ww_wd (by omega) hw (by omega), rfl⟩
        cases gr
        · simp
          exact fin
        · have hk0 : ¬ ((k : Int) = 0) := fun z => hc ⟨rfl, z⟩
          have hk1 : k ≠ 0 := by omega
          simp [hk1]
          exact fin
    obtain ⟨b2, g, m, w, o7, o8, o9, hb2, hm0, hm4, hw, rfl⟩ := hP
    have hwl := hw.1
    refine n_cut (by (with_reducible repeat' (first | exact mono_up | exact mono_th | exact mono_thE | exact mono_dict0 | assumption | apply mono_seq | apply mono_set | apply mono_if | apply mono_ret | apply mono_drop | apply mono_ifE | apply mono_call | apply mono_pick | apply mono_app | apply mono_cons | apply mono_lst | apply mono_tup | apply mono_cell | apply mono_for | apply mono_wh | apply mono_b | apply mono_not | apply mono_and2 | apply mono_or2 | apply mono_op | apply mono_mu | apply mono_putD | apply mono_try | apply mono_tryN | apply mono_andV | apply mono_orV | apply mono_notV | apply mono_raise | apply mono_or | apply mono_is))) (L5 6000 ns gr k m w 0) ?_ fun ρ κ hP => ?_
    · rw [n_Try]
      simp
      refine law_right_ok hw fun κ1 => ?_
      simp
      rw [cutL_to (by omega)]
      refine ⟨by omega, near_wd (j := 4) (k := 60) hb2 (by omega) hm0 (by omega) (by omega) (wd_take (wd_ww hw)) (by omega) fun u b3 hb3 hu => ?_⟩
      simp
      refine law_right_ok (ww_wd (by omega) hu (by omega)) fun κ2 => ?_
      simp
      refine take_ok hb3 (by omega) (by omega) (by omega) fun v b4 hb4 hv0 hv1 => ?_
      simp
      rw [cutL_to hv0]
      refine ⟨by omega, law_right_ok (ww_wd (j := 200) (by omega) (wd_take (j := v.toNat) (wd_ww hw)) (by omega)) fun κ3 => ?_⟩
      simp
      exact ⟨b4, g, _, _, _, hb4.mono (by omega), rfl⟩
    simp
    refine wG_inv (by (with_reducible repeat' (first | exact mono_up | exact mono_th | exact mono_thE | exact mono_dict0 | assumption | apply mono_seq | apply mono_set | apply mono_if | apply mono_ret | apply mono_drop | apply mono_ifE | apply mono_call | apply mono_pick | apply mono_app | apply mono_cons | apply mono_lst | apply mono_tup | apply mono_cell | apply mono_for | apply mono_wh | apply mono_b | apply mono_not | apply mono_and2 | apply mono_or2 | apply mono_op | apply mono_mu | apply mono_putD | apply mono_try | apply mono_tryN | apply mono_andV | apply mono_orV | apply mono_notV | apply mono_raise | apply mono_or | apply mono_is))) (L5 6000 ns gr k m w) hP (fun j x ρ κ hx hP => ?_) fun ρ κ hP => ?_
    · obtain ⟨b3, g, o7, o8, o9, hb3, rfl⟩ := hP
      have hj : j < 6 := by simpa using (List.getElem?_eq_some_iff.mp hx).1
      have hx2 := List.mem_of_getElem? hx
      clear hx
      rw [bName_ap, oq_some]
      refine n_cut (by (with_reducible repeat' (first | exact mono_up | exact mono_th | exact mono_thE | exact mono_dict0 | assumption | apply mono_seq | apply mono_set | apply mono_if | apply mono_ret | apply mono_drop | apply mono_ifE | apply mono_call | apply mono_pick | apply mono_app | apply mono_cons | apply mono_lst | apply mono_tup | apply mono_cell | apply mono_for | apply mono_wh | apply mono_b | apply mono_not | apply mono_and2 | apply mono_or2 | apply mono_op | apply mono_mu | apply mono_putD | apply mono_try | apply mono_tryN | apply mono_andV | apply mono_orV | apply mono_notV | apply mono_raise | apply mono_or | apply mono_is))) (L6 (6000 + j + 1) ns gr k m w x g o9) ?_ fun ρ κ hP => ?_
      · simp
        refine bad_word_ok hb3 (by omega) fun y b4 κ2 hb4 hbad => ?_
        simp
        exact ⟨b4, y, hb4, hbad, rfl⟩
      obtain ⟨b4, y, hb4, hbad, rfl⟩ := hP
      refine n_cut (by (with_reducible repeat' (first | exact mono_up | exact mono_th | exact mono_thE | exact mono_dict0 | assumption | apply mono_seq | apply mono_set | apply mono_if | apply mono_ret | apply mono_drop | apply mono_ifE | apply mono_call | apply mono_pick | apply mono_app | apply mono_cons | apply mono_lst | apply mono_tup | apply mono_cell | apply mono_for | apply mono_wh | apply mono_b | apply mono_not | apply mono_and2 | apply mono_or2 | apply mono_op | apply mono_mu | apply mono_putD | apply mono_try | apply mono_tryN | apply mono_andV | apply mono_orV | apply mono_notV | apply mono_raise | apply mono_or | apply mono_is))) (L7 (6000 + j + 1) ns gr k m w x g) ?_ fun ρ κ hP => ?_
      · have go : ∃ nm, x = .str nm ∧ wN F__law_ask [.d (.str nm), .d y, .d (.bl g)] κ (fun r as κ' => r = .own [.str sWORD, y] ∧ as = [.d (.str nm), .d y, .d (.bl g)] ∧ κ' = κ) (fun _ _ _ => False) := by
          have hn := hbad.2.2 200 (by omega)
          have no : ∀ {w : List Nat} {P : Prop}, y = .str w → w.length ≤ 200 → w.all isab = true → P := fun e h1 h2 => by
            subst e
            rw [fz_str, wD_w ⟨h1, h2⟩] at hn
            cases hn
          simp at hx2
          rcases hx2 with rfl | rfl | rfl | rfl | rfl | rfl
          · exact ⟨sPER, rfl, ask_periods hbad.2.1 (fun w e h1 h2 p hp => no e h1 h2) (fun _ => ⟨rfl, rfl, rfl⟩)⟩
          · exact ⟨sLEAST, rfl, ask_least hbad.2.1 (fun w e h1 h2 => no e h1 h2) (fun _ => ⟨rfl, rfl, rfl⟩)⟩
          · exact ⟨sBOR, rfl, ask_borders hbad.2.1 (fun w e h1 h2 p hp => no e h1 h2) (fun _ => ⟨rfl, rfl, rfl⟩)⟩
          · exact ⟨sTAB, rfl, ask_table hbad.2.1 (fun w e h1 h2 fs a b p hp => no e h1 h2) (fun _ => ⟨rfl, rfl, rfl⟩)⟩
          · exact ⟨sPRE, rfl, ask_prefixes hbad.2.1 (fun w e h1 h2 p hp => no e h1 h2) (fun _ => ⟨rfl, rfl, rfl⟩)⟩
          · exact ⟨sEXP, rfl, ask_exponent hbad.2.1 (fun w e _ h1 h2 => no e h1 h2) (fun e => no e (by simp) rfl) (fun _ => ⟨rfl, rfl, rfl⟩)⟩
        obtain ⟨nm, rfl, go⟩ := go
        simp
        refine wN.imp m2 go (fun r as κ' q => ?_) (fun _ _ _ z => z.elim)
        obtain ⟨rfl, rfl, rfl⟩ := q
        simp
        exact ⟨b4, y, hb4, hbad, rfl⟩
      obtain ⟨b4, y, hb4, hbad, rfl⟩ := hP
      simp [sWORD]
      refine very_ok hbad.1 fun κ' hk => ?_
      simp
      exact ⟨b4, !g, _, _, _, hb4.mono (by omega), rfl⟩
    · obtain ⟨b3, g, o7, o8, o9, hb3, rfl⟩ := hP
      exact ⟨_, _, _, _, _, _, _, _, rfl⟩
  obtain ⟨o2, o3, o4, o5, o6, o7, o8, o9, rfl⟩ := hP
  simp
  exact h κ
theorem ints_of : ∀ {xs : List D}, xs.all (fun x => match x with | .int _ => true | _ => false) = true → ∃ ns : List Int, xs = ns.map .int
  | [], _ => ⟨[], rfl⟩
  | x :: xs, h => by
    simp only [List.all_cons, Bool.and_eq_true] at h
    obtain ⟨ns, rfl⟩ := ints_of h.2
    cases x with
    | int i => exact ⟨i :: ns, rfl⟩
    | _ => simp at h
theorem fzs_ints (κ : Ck) (ns : List Int) : fzs κ (ns.map .int) = ns.map .int := fzs_np _ (nps_map (fun _ => rfl) ns)
theorem told_law : ∀ args r as, F_law args = some (r, as) → runN N_law.length 1 (B_law) args [] (fun r' as' κ' => r = fzR κ' r' ∧ as = as'.map (fzO κ') ∧ ∀ i, r' ≠ .bor i) (fun _ _ _ => False) := by
  intro args r as h
  unfold F_law at h
  split at h
  rotate_left
  · cases h
  rename_i xs
  split at h
  rotate_left
  · cases h
  rename_i hx
  cases h
  obtain ⟨ns, rfl⟩ := ints_of hx.1
  have hl := hx.2
  have g : wN (runN N_law.length 1 B_law) [.d (.scr (ns.map .int))] [] (fun r' as' κ' => RV.d (.bl true) = fzR κ' r' ∧ [SV.d (.scr (ns.map .int))] = as'.map (fzO κ') ∧ ∀ i, r' ≠ .bor i) (fun _ _ _ => False) := by
    refine law_okN ns (by simpa using hl) fun κ => ⟨rfl, ?_, fun i z => by cases z⟩
    simp [fzs_ints]
  exact wN_def.mp g
theorem law_true (ns : List Int) (h : ns.length ≤ 63) : ∃ as, F_law [.d (.scr (ns.map .int))] = some (.d (.bl true), as) := by
  refine ⟨[.d (.scr (ns.map .int))], ?_⟩
  unfold F_law
  have e : (ns.map D.int).all (fun x => match x with | .int _ => true | _ => false) = true := by
    rw [List.all_eq_true]
    intro x hx
    obtain ⟨n, _, rfl⟩ := List.mem_map.mp hx
    rfl
  simp only
  rw [if_pos ⟨e, by simpa using h⟩]
end K02
namespace K02
open PySem PySem.Spec PyProof.Rows L2 TL M
theorem fin {l : PySem.W.OpenLaw} {w : World} {K : PySem.W.Frag} {h : Heap} {mg : Str → Option Value} {fa f : Addr} (X : K.In h) (G : h.Ns mainGlobals mg) (hfa : mg "law" = some (.ref fa)) (T : Tx K mg) {od an : Option Addr} {sl : Array (Option Value)} {oc kV dc pm cd ct : Value}
    (a : PySem.W.nsIn K mainGlobals "law" = some (some (.ref f)))
    (l1 : K.lookup f = some ⟨oc, od, .func (PySem.W.fnOf "law" "law" (defArgs s_law) (defBody s_law) (defScope s_law) .none kV dc pm an cd ct), sl⟩) (c : PySem.W.codeIn K cd "law" = true) (kp : PySem.W.keepIn K (.ref f) = true) :
    ∃ fd : FuncData, (∀ (s : Shared) (v : Value), BindsTo s fd ⟨[v], []⟩ [("script", v)]) ∧ ∀ base : Heap, K.In base → base.Ns mainGlobals mg → FnOk l.prog w K mg base CX0 8 fa fd ["script"] (spV K F_law) :=
  law_fd X G hfa a l1 c kp (fun s v => .of_eq rfl) fun base f fd F => fok_law T f fd F
end K02
open PySem PySem.W PyProof.Rows
set_option maxRecDepth 100000 in
set_option maxHeartbeats 0 in
theorem PySem.Challenge.cw_stringbench_k02_periods_and_borders_holds : PySem.Challenge.rw_stringbench_k02_periods_and_borders.Holds := by
  w_on; o_law; k_head; (case hw => w_witness2)
  k_fill
  refine M.law_walk (l := PySem.Challenge.rw_stringbench_k02_periods_and_borders) (n := 63) (k := 8) K02.F_law rfl (by decide) rfl ⟨rfl, by decide, by decide⟩ (fun w h Y => PySem.W.kIn_of Y) ?F (fun ns hl => K02.law_true ns hl)
  intro w mg fa h KX G hmg
  refine' K02.fin KX G hmg ?T ?a ?l1 ?c ?kp
  case T =>
    constructor
    · exact M.free_of KX G (by k_is)
    · exact M.free_of KX G (by k_is)
    · exact M.free_of KX G (by k_is)
    · exact M.free_of KX G (by k_is)
    · exact M.free_of KX G (by k_is)
    · exact M.free_of KX G (by k_is)
    · exact M.free_of KX G (by k_is)
    · exact M.free_of KX G (by k_is)
    · exact M.free_of KX G (by k_is)
    · exact M.free_of KX G (by k_is)
    · exact M.free_of KX G (by k_is)
    · exact M.free_of KX G (by k_is)
    · exact M.free_of KX G (by k_is)
    · exact M.free_of KX G (by k_is)
    · exact M.free_of KX G (by k_is)
    · refine' M.gstr_of KX G ?a_15 ?e_15; (case a_15 => k_is); (case e_15 => first | rfl | decide +kernel)
    · refine' M.gint_of KX G ?a_16 ?e_16; (case a_16 => k_is); (case e_16 => rfl)
    · refine' M.gint_of KX G ?a_17 ?e_17; (case a_17 => k_is); (case e_17 => rfl)
    · refine' M.dfd_of KX G ?a_18 ?l_18 ?c_18 ?k_18 ?l2_18 ?e_18 ?hd_18 ?hv_18; (case a_18 => k_is); (case l_18 => k_is); (case c_18 => k_is); (case k_18 => k_is); (case l2_18 => k_is); (case e_18 => rfl); (case hd_18 => simp); (case hv_18 => exact .cons ⟨_, rfl⟩ (.cons ⟨_, rfl⟩ (.nil)))
    · refine' M.dfd_of KX G ?a_19 ?l_19 ?c_19 ?k_19 ?l2_19 ?e_19 ?hd_19 ?hv_19; (case a_19 => k_is); (case l_19 => k_is); (case c_19 => k_is); (case k_19 => k_is); (case l2_19 => k_is); (case e_19 => rfl); (case hd_19 => simp); (case hv_19 => exact .cons ⟨_, rfl⟩ (.cons ⟨_, rfl⟩ (.nil)))
    · refine' M.df_of KX G ?a_20 ?l_20 ?c_20 ?k_20; (case a_20 => k_is); (case l_20 => k_is); (case c_20 => k_is); (case k_20 => k_is)
    · refine' M.df_of KX G ?a_21 ?l_21 ?c_21 ?k_21; (case a_21 => k_is); (case l_21 => k_is); (case c_21 => k_is); (case k_21 => k_is)
    · refine' M.df_of KX G ?a_22 ?l_22 ?c_22 ?k_22; (case a_22 => k_is); (case l_22 => k_is); (case c_22 => k_is); (case k_22 => k_is)
    · refine' M.df_of KX G ?a_23 ?l_23 ?c_23 ?k_23; (case a_23 => k_is); (case l_23 => k_is); (case c_23 => k_is); (case k_23 => k_is)
    · refine' M.df_of KX G ?a_24 ?l_24 ?c_24 ?k_24; (case a_24 => k_is); (case l_24 => k_is); (case c_24 => k_is); (case k_24 => k_is)
    · refine' M.df_of KX G ?a_25 ?l_25 ?c_25 ?k_25; (case a_25 => k_is); (case l_25 => k_is); (case c_25 => k_is); (case k_25 => k_is)
    · refine' M.df_of KX G ?a_26 ?l_26 ?c_26 ?k_26; (case a_26 => k_is); (case l_26 => k_is); (case c_26 => k_is); (case k_26 => k_is)
    · refine' M.df_of KX G ?a_27 ?l_27 ?c_27 ?k_27; (case a_27 => k_is); (case l_27 => k_is); (case c_27 => k_is); (case k_27 => k_is)
    · refine' M.df_of KX G ?a_28 ?l_28 ?c_28 ?k_28; (case a_28 => k_is); (case l_28 => k_is); (case c_28 => k_is); (case k_28 => k_is)
    · refine' M.df_of KX G ?a_29 ?l_29 ?c_29 ?k_29; (case a_29 => k_is); (case l_29 => k_is); (case c_29 => k_is); (case k_29 => k_is)
    · refine' M.df_of KX G ?a_30 ?l_30 ?c_30 ?k_30; (case a_30 => k_is); (case l_30 => k_is); (case c_30 => k_is); (case k_30 => k_is)
    · refine' M.df_of KX G ?a_31 ?l_31 ?c_31 ?k_31; (case a_31 => k_is); (case l_31 => k_is); (case c_31 => k_is); (case k_31 => k_is)
    · refine' M.df_of KX G ?a_32 ?l_32 ?c_32 ?k_32; (case a_32 => k_is); (case l_32 => k_is); (case c_32 => k_is); (case k_32 => k_is)
    · refine' M.df_of KX G ?a_33 ?l_33 ?c_33 ?k_33; (case a_33 => k_is); (case l_33 => k_is); (case c_33 => k_is); (case k_33 => k_is)
    · refine' M.df_of KX G ?a_34 ?l_34 ?c_34 ?k_34; (case a_34 => k_is); (case l_34 => k_is); (case c_34 => k_is); (case k_34 => k_is)
    · refine' M.df_of KX G ?a_35 ?l_35 ?c_35 ?k_35; (case a_35 => k_is); (case l_35 => k_is); (case c_35 => k_is); (case k_35 => k_is)
    · refine' M.df_of KX G ?a_36 ?l_36 ?c_36 ?k_36; (case a_36 => k_is); (case l_36 => k_is); (case c_36 => k_is); (case k_36 => k_is)
    · refine' M.df_of KX G ?a_37 ?l_37 ?c_37 ?k_37; (case a_37 => k_is); (case l_37 => k_is); (case c_37 => k_is); (case k_37 => k_is)
    · refine' M.df_of KX G ?a_38 ?l_38 ?c_38 ?k_38; (case a_38 => k_is); (case l_38 => k_is); (case c_38 => k_is); (case k_38 => k_is)
    · refine' M.df_of KX G ?a_39 ?l_39 ?c_39 ?k_39; (case a_39 => k_is); (case l_39 => k_is); (case c_39 => k_is); (case k_39 => k_is)
    · refine' M.df_of KX G ?a_40 ?l_40 ?c_40 ?k_40; (case a_40 => k_is); (case l_40 => k_is); (case c_40 => k_is); (case k_40 => k_is)
    · refine' M.df_of KX G ?a_41 ?l_41 ?c_41 ?k_41; (case a_41 => k_is); (case l_41 => k_is); (case c_41 => k_is); (case k_41 => k_is)
    · refine' M.df_of KX G ?a_42 ?l_42 ?c_42 ?k_42; (case a_42 => k_is); (case l_42 => k_is); (case c_42 => k_is); (case k_42 => k_is)
    · refine' M.df_of KX G ?a_43 ?l_43 ?c_43 ?k_43; (case a_43 => k_is); (case l_43 => k_is); (case c_43 => k_is); (case k_43 => k_is)
    · refine' M.df_of KX G ?a_44 ?l_44 ?c_44 ?k_44; (case a_44 => k_is); (case l_44 => k_is); (case c_44 => k_is); (case k_44 => k_is)
    · refine' M.df_of KX G ?a_45 ?l_45 ?c_45 ?k_45; (case a_45 => k_is); (case l_45 => k_is); (case c_45 => k_is); (case k_45 => k_is)
    · refine' M.df_of KX G ?a_46 ?l_46 ?c_46 ?k_46; (case a_46 => k_is); (case l_46 => k_is); (case c_46 => k_is); (case k_46 => k_is)
    · refine' M.df_of KX G ?a_47 ?l_47 ?c_47 ?k_47; (case a_47 => k_is); (case l_47 => k_is); (case c_47 => k_is); (case k_47 => k_is)
    · refine' M.df_of KX G ?a_48 ?l_48 ?c_48 ?k_48; (case a_48 => k_is); (case l_48 => k_is); (case c_48 => k_is); (case k_48 => k_is)
    · refine' M.df_of KX G ?a_49 ?l_49 ?c_49 ?k_49; (case a_49 => k_is); (case l_49 => k_is); (case c_49 => k_is); (case k_49 => k_is)
    · refine' M.erf_of KX G ?a_50 ?lC_50 ?hb_50 ?sa_50 ?exC_50 ?tyC_50 ?kC_50 ?ga_50 ?gg_50 ?hdC_50 ?i1_50 ?tI_50 ?l_50 ?c_50 ?k_50 (List.forall_mem_cons.mpr ⟨?n0_50, fun _ h => nomatch h⟩); (case a_50 => k_is); (case lC_50 => k_is); (case hb_50 => first | rfl | decide +kernel); (case sa_50 => k_is); (case exC_50 => k_is); (case tyC_50 => k_is); (case kC_50 => k_is); (case ga_50 => k_is); (case gg_50 => k_is); (case hdC_50 => k_is); (case i1_50 => k_is); (case tI_50 => k_is); (case l_50 => k_is); (case c_50 => k_is); (case k_50 => k_is); (case n0_50 => k_is)
    · refine' M.erz_of KX G ?a_51 ?q_51 ?exC_51 ?tyC_51 ?kC_51; (case a_51 => k_is); (case q_51 => k_exc); (case exC_51 => k_is); (case tyC_51 => k_is); (case kC_51 => k_is)
    · refine' M.ertab_of (l := [("StringError", _), ("InvalidWord", _), ("Empty", _)]) (List.forall_mem_cons.mpr ⟨M.ecf_of KX G ?a0_52 ?ex0_52 ?is0_52 ?ty0_52 ?ga0_52 ?gg0_52 ?hd0_52 (List.forall_mem_cons.mpr ⟨?n0x0_52, fun _ h => nomatch h⟩), List.forall_mem_cons.mpr ⟨M.ecf_of KX G ?a1_52 ?ex1_52 ?is1_52 ?ty1_52 ?ga1_52 ?gg1_52 ?hd1_52 (List.forall_mem_cons.mpr ⟨?n1x0_52, fun _ h => nomatch h⟩), List.forall_mem_cons.mpr ⟨M.ecf_of KX G ?a2_52 ?ex2_52 ?is2_52 ?ty2_52 ?ga2_52 ?gg2_52 ?hd2_52 (List.forall_mem_cons.mpr ⟨?n2x0_52, fun _ h => nomatch h⟩), fun _ h => nomatch h⟩⟩⟩) (List.forall_mem_cons.mpr ⟨List.forall_mem_cons.mpr ⟨?s0x0_52, List.forall_mem_cons.mpr ⟨?s0x1_52, List.forall_mem_cons.mpr ⟨?s0x2_52, fun _ h => nomatch h⟩⟩⟩, List.forall_mem_cons.mpr ⟨List.forall_mem_cons.mpr ⟨?s1x0_52, List.forall_mem_cons.mpr ⟨?s1x1_52, List.forall_mem_cons.mpr ⟨?s1x2_52, fun _ h => nomatch h⟩⟩⟩, List.forall_mem_cons.mpr ⟨List.forall_mem_cons.mpr ⟨?s2x0_52, List.forall_mem_cons.mpr ⟨?s2x1_52, List.forall_mem_cons.mpr ⟨?s2x2_52, fun _ h => nomatch h⟩⟩⟩, fun _ h => nomatch h⟩⟩⟩); (case a0_52 => k_is); (case a1_52 => k_is); (case a2_52 => k_is); (case ex0_52 => k_is); (case is0_52 => k_is); (case ty0_52 => k_is); (case ga0_52 => k_is); (case gg0_52 => k_is); (case hd0_52 => k_is); (case n0x0_52 => k_is); (case ex1_52 => k_is); (case is1_52 => k_is); (case ty1_52 => k_is); (case ga1_52 => k_is); (case gg1_52 => k_is); (case hd1_52 => k_is); (case n1x0_52 => k_is); (case ex2_52 => k_is); (case is2_52 => k_is); (case ty2_52 => k_is); (case ga2_52 => k_is); (case gg2_52 => k_is); (case hd2_52 => k_is); (case n2x0_52 => k_is); (case s0x0_52 => first | k_is | (show PySem.W.subIn _ _ _ = some true; k_is)); (case s0x1_52 => first | k_is | (show PySem.W.subIn _ _ _ = some false; k_is)); (case s0x2_52 => first | k_is | (show PySem.W.subIn _ _ _ = some false; k_is)); (case s1x0_52 => first | k_is | (show PySem.W.subIn _ _ _ = some true; k_is)); (case s1x1_52 => first | k_is | (show PySem.W.subIn _ _ _ = some true; k_is)); (case s1x2_52 => first | k_is | (show PySem.W.subIn _ _ _ = some false; k_is)); (case s2x0_52 => first | k_is | (show PySem.W.subIn _ _ _ = some true; k_is)); (case s2x1_52 => first | k_is | (show PySem.W.subIn _ _ _ = some false; k_is)); (case s2x2_52 => first | k_is | (show PySem.W.subIn _ _ _ = some true; k_is))
    · exact K02.told_law
  (case a => k_is); (case l1 => k_is); (case c => k_is); (case kp => k_is)
