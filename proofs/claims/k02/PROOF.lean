import PyProof.Rows.All
import Wide.All
import OpenK.AllK
import Wide.FinOn
import HandS.ForMost
import HandS.WideBits
import HandS.Wide
import HandS.Flow
import HandS.TupAny
import HandS.Zip
import HandS.SetFor
import HandS.SortInts
import KE.OsArith
import PySem.Challenge.RW_wishweather_k02_settings
set_option Elab.async false
set_option linter.all false
set_option maxRecDepth 100000
set_option maxHeartbeats 4000000
set_option autoImplicit false
namespace WW
open PySem PySem.Spec PyProof.Rows L2

/-! ### clean data, clean store, clean readings -/
inductive D where
  | non | bl (b : Bool) | int (i : Int) | str (s : Str) | tup (xs : List D) | fro (xs : List D) | ref (n : Nat)
inductive O where
  | lst (xs : List D)
abbrev Sto := List O
abbrev Rho := List (Option D)
abbrev Q1 := D → Sto → Prop
abbrev W := Rho → Sto → Q1 → Prop
abbrev WA := Rho → Sto → (List D → Sto → Prop) → Prop
abbrev WT := Rho → Sto → (Bool → Sto → Prop) → Prop
structure KK where
  nx : Rho → Sto → Prop
  rt : Q1
  bk : Rho → Sto → Prop
  ct : Rho → Sto → Prop
abbrev WS := KK → Rho → Sto → Prop
abbrev Spec := List D → Sto → Q1 → Prop

def look : Rho → Nat → Option D
  | [], _ => none
  | x :: _, 0 => x
  | _ :: r, n + 1 => look r n
def putR : Rho → Nat → Option D → Rho
  | [], _, _ => []
  | _ :: r, 0, y => y :: r
  | x :: r, n + 1, y => x :: putR r n y
theorem putR_len (r : Rho) (i : Nat) (y : Option D) : (putR r i y).length = r.length := by
  induction r generalizing i with
  | nil => rfl
  | cons x r ih => cases i with
    | zero => rfl
    | succ n => show (putR r n y).length + 1 = r.length + 1; rw [ih]
theorem look_putR (r : Rho) (i j : Nat) (y : Option D) : look (putR r i y) j = if i = j ∧ i < r.length then y else look r j := by
  induction r generalizing i j with
  | nil => simp [putR, look]
  | cons x r ih =>
    cases i with
    | zero => cases j with
      | zero => simp [putR, look]
      | succ m => simp [putR, look]
    | succ n => cases j with
      | zero => simp [putR, look]
      | succ m => simp [putR, look, ih]
theorem look_get (r : Rho) (i : Nat) : look r i = (r[i]?).join := by
  induction r generalizing i with
  | nil => rfl
  | cons x r ih => cases i with
    | zero => rfl
    | succ n => simpa [look] using ih n

/-! ### how the machine's heap bears clean data -/
def SqK (K : PySem.W.Frag) (H : Hp) (a : Addr) (xs : List V) : Prop := (∃ o, H a = some (.frz o (.lst xs))) ∨ ∀ H', SqL K H' a xs
mutual
def RepV (K : PySem.W.Frag) (H : Hp) (ι : List Addr) : D → V → Prop
  | .non, v => v = .non
  | .bl b, v => v = .bl b
  | .int i, v => v = .int i
  | .str s, v => v = .str s
  | .ref n, v => ∃ a, ι[n]? = some a ∧ v = .ref a
  | .tup ds, v => ∃ a xs, v = .ref a ∧ SqT K H a xs ∧ RepVs K H ι ds xs
  | .fro ds, v => ∃ a xs, v = .ref a ∧ SqK K H a xs ∧ RepVs K H ι ds xs
def RepVs (K : PySem.W.Frag) (H : Hp) (ι : List Addr) : List D → List V → Prop
  | [], xs => xs = []
  | d :: ds, xs => ∃ x r, xs = x :: r ∧ RepV K H ι d x ∧ RepVs K H ι ds r
end
def RepO (K : PySem.W.Frag) (H : Hp) (ι : List Addr) : O → Addr → Prop
  | .lst ds, a => ∃ xs, H a = some (.lst xs) ∧ RepVs K H ι ds xs
structure RepS (K : PySem.W.Frag) (H : Hp) (ι : List Addr) (S : Sto) : Prop where
  len : ι.length = S.length
  nd : ι.Nodup
  ob : ∀ (n : Nat) (a : Addr) (o : O), ι[n]? = some a → S[n]? = some o → RepO K H ι o a
structure RepE (K : PySem.W.Frag) (H : Hp) (ι : List Addr) (σ : L2.St) (ρ : Rho) : Prop where
  len : σ.length = ρ.length
  at_ : ∀ (i : Nat) (d : D), look ρ i = some d → ∃ v, σ[i]? = some (some v) ∧ RepV K H ι d v
structure Tr (H : Hp) (ι : List Addr) (H' : Hp) (ι' : List Addr) : Prop where
  ext : ∃ t, ι' = ι ++ t ∧ ∀ a ∈ t, a ∈ ι ∨ H a = none
  keep : ∀ (a : Addr) (o : HO), H a = some o → a ∉ ι → H' a = some o

section
variable {K : PySem.W.Frag} {H H1 H2 H' : Hp} {ι ι1 ι2 ι' : List Addr} {S S1 S' : Sto} {σ : L2.St} {ρ : Rho}
theorem Tr.refl (H : Hp) (ι : List Addr) : Tr H ι H ι := ⟨⟨[], by simp, by simp⟩, fun _ _ h _ => h⟩
theorem Tr.trans (a : Tr H ι H1 ι1) (b : Tr H1 ι1 H2 ι2) : Tr H ι H2 ι2 := by
  obtain ⟨t, e, h⟩ := a.ext
  obtain ⟨t1, e1, h1⟩ := b.ext
  have hm : ∀ x, x ∈ ι1 → x ∈ ι ∨ H x = none := fun x hx => by
    rw [e] at hx
    rcases List.mem_append.mp hx with q | q
    · exact .inl q
    · exact h x q
  refine ⟨⟨t ++ t1, by rw [e1, e, List.append_assoc], fun x hx => ?_⟩, fun x o hx hn => ?_⟩
  · rcases List.mem_append.mp hx with q | q
    · exact h x q
    · rcases h1 x q with q | q
      · exact hm x q
      · by_cases hx : x ∈ ι
        · exact .inl hx
        · right
          cases e2 : H x with
          | none => rfl
          | some o => rw [a.keep x o e2 hx] at q; cases q
  · refine b.keep x o (a.keep x o hx hn) fun hq => ?_
    rcases hm x hq with q | q
    · exact hn q
    · rw [hx] at q; cases q
theorem Tr.get (T : Tr H ι H' ι') {n : Nat} {a : Addr} (h : ι[n]? = some a) : ι'[n]? = some a := by
  obtain ⟨t, e, _⟩ := T.ext
  rw [e, List.getElem?_append_left (List.getElem?_eq_some_iff.mp h).1]
  exact h
theorem RepS.has (R : RepS K H ι S) {a : Addr} (h : a ∈ ι) : ∃ xs, H a = some (.lst xs) := by
  obtain ⟨n, hn, e⟩ := List.mem_iff_getElem.mp h
  have hn2 : n < S.length := by rw [← R.len]; exact hn
  have q := R.ob n a S[n] (by rw [List.getElem?_eq_getElem hn, e]) (List.getElem?_eq_getElem hn2)
  cases o : S[n] with
  | lst ds => rw [o] at q; obtain ⟨xs, e, _⟩ := q; exact ⟨xs, e⟩
theorem RepS.fresh (R : RepS K H ι S) {p : Addr} (h : H p = none) : p ∉ ι := fun q => by
  obtain ⟨xs, e⟩ := R.has q
  rw [h] at e; cases e
theorem Tr.nmem (T : Tr H ι H' ι') {a : Addr} {o : HO} (h : H a = some o) (hn : a ∉ ι) : a ∉ ι' := fun q => by
  obtain ⟨t, e, ht⟩ := T.ext
  rw [e] at q
  rcases List.mem_append.mp q with q | q
  · exact hn q
  · rcases ht a q with q | q
    · exact hn q
    · rw [h] at q; cases q
theorem SqT.tr {a : Addr} {xs : List V} (R : RepS K H ι S) (T : Tr H ι H' ι') (h : SqT K H a xs) : SqT K H' a xs := by
  rcases h with (h | ⟨o, h⟩) | h
  · refine .inl (.inl (T.keep a _ h fun q => ?_))
    obtain ⟨ys, e⟩ := R.has q
    rw [h] at e; cases e
  · refine .inl (.inr ⟨o, T.keep a _ h fun q => ?_⟩)
    obtain ⟨ys, e⟩ := R.has q
    rw [h] at e; cases e
  · exact .inr h
theorem SqK.tr {a : Addr} {xs : List V} (R : RepS K H ι S) (T : Tr H ι H' ι') (h : SqK K H a xs) : SqK K H' a xs := by
  rcases h with ⟨o, h⟩ | h
  · refine .inl ⟨o, T.keep a _ h fun q => ?_⟩
    obtain ⟨ys, e⟩ := R.has q
    rw [h] at e; cases e
  · exact .inr h
theorem SqK.sq {a : Addr} {xs : List V} (h : SqK K H a xs) : SqL K H a xs := by
  rcases h with ⟨o, h⟩ | h
  · exact .inl (.inr ⟨o, h⟩)
  · exact h H
mutual
theorem RepV.tr (R : RepS K H ι S) (T : Tr H ι H' ι') : ∀ (d : D) (v : V), RepV K H ι d v → RepV K H' ι' d v
  | .non, _, h => h
  | .bl _, _, h => h
  | .int _, _, h => h
  | .str _, _, h => h
  | .ref n, v, h => by
    obtain ⟨a, h1, h2⟩ := h
    exact ⟨a, T.get h1, h2⟩
  | .tup ds, v, h => by
    obtain ⟨a, xs, h1, h2, h3⟩ := h
    exact ⟨a, xs, h1, SqT.tr R T h2, RepVs.tr R T ds xs h3⟩
  | .fro ds, v, h => by
    obtain ⟨a, xs, h1, h2, h3⟩ := h
    exact ⟨a, xs, h1, SqK.tr R T h2, RepVs.tr R T ds xs h3⟩
theorem RepVs.tr (R : RepS K H ι S) (T : Tr H ι H' ι') : ∀ (ds : List D) (xs : List V), RepVs K H ι ds xs → RepVs K H' ι' ds xs
  | [], _, h => h
  | d :: ds, xs, h => by
    obtain ⟨x, r, h1, h2, h3⟩ := h
    exact ⟨x, r, h1, RepV.tr R T d x h2, RepVs.tr R T ds r h3⟩
end
theorem RepE.tr (R : RepS K H ι S) (T : Tr H ι H' ι') (h : RepE K H ι σ ρ) : RepE K H' ι' σ ρ :=
  ⟨h.len, fun i d e => let ⟨v, a, b⟩ := h.at_ i d e; ⟨v, a, RepV.tr R T d v b⟩⟩
theorem RepVs.length : ∀ {ds : List D} {xs : List V}, RepVs K H ι ds xs → ds.length = xs.length
  | [], _, h => by cases h; rfl
  | _ :: ds, _, h => by
    obtain ⟨x, r, rfl, _, h3⟩ := h
    rw [List.length_cons, List.length_cons, RepVs.length h3]
theorem RepVs.get : ∀ {ds : List D} {xs : List V} {i : Nat} {d : D}, RepVs K H ι ds xs → ds[i]? = some d → ∃ x, xs[i]? = some x ∧ RepV K H ι d x
  | [], _, _, _, _, e => by simp at e
  | d :: ds, _, 0, _, h, e => by
    obtain ⟨x, r, rfl, h2, h3⟩ := h
    simp at e; subst e
    exact ⟨x, rfl, h2⟩
  | _ :: ds, _, i + 1, d, h, e => by
    obtain ⟨x, r, rfl, h2, h3⟩ := h
    obtain ⟨y, e1, e2⟩ := RepVs.get (i := i) (d := d) h3 (by simpa using e)
    exact ⟨y, by simpa using e1, e2⟩
theorem RepVs.getV : ∀ {ds : List D} {xs : List V} {i : Nat} {x : V}, RepVs K H ι ds xs → xs[i]? = some x → ∃ d, ds[i]? = some d ∧ RepV K H ι d x
  | [], _, _, _, h, e => by cases h; simp at e
  | d :: ds, _, 0, _, h, e => by
    obtain ⟨x, r, rfl, h2, h3⟩ := h
    simp at e; subst e
    exact ⟨d, rfl, h2⟩
  | _ :: ds, _, i + 1, x, h, e => by
    obtain ⟨y, r, rfl, h2, h3⟩ := h
    obtain ⟨d, e1, e2⟩ := RepVs.getV (i := i) (x := x) h3 (by simpa using e)
    exact ⟨d, by simpa using e1, e2⟩
theorem RepVs.app : ∀ {ds es : List D} {xs ys : List V}, RepVs K H ι ds xs → RepVs K H ι es ys → RepVs K H ι (ds ++ es) (xs ++ ys)
  | [], _, _, _, h, g => by cases h; exact g
  | d :: ds, _, _, _, h, g => by
    obtain ⟨x, r, rfl, h2, h3⟩ := h
    exact ⟨x, r ++ _, rfl, h2, RepVs.app h3 g⟩
theorem RepVs.one {d : D} {v : V} (h : RepV K H ι d v) : RepVs K H ι [d] [v] := ⟨v, [], rfl, h, rfl⟩
theorem RepVs.take : ∀ {ds : List D} {xs : List V} (n : Nat), RepVs K H ι ds xs → RepVs K H ι (ds.take n) (xs.take n)
  | _, _, 0, _ => by rw [List.take_zero, List.take_zero]; rfl
  | [], _, n + 1, h => by cases h; rfl
  | d :: ds, _, n + 1, h => by
    obtain ⟨x, r, rfl, h2, h3⟩ := h
    exact ⟨x, r.take n, rfl, h2, RepVs.take n h3⟩
theorem RepVs.drop : ∀ {ds : List D} {xs : List V} (n : Nat), RepVs K H ι ds xs → RepVs K H ι (ds.drop n) (xs.drop n)
  | _, _, 0, h => h
  | [], _, n + 1, h => by cases h; rfl
  | d :: ds, _, n + 1, h => by
    obtain ⟨x, r, rfl, h2, h3⟩ := h
    exact RepVs.drop n h3
theorem RepVs.set : ∀ {ds : List D} {xs : List V} {d : D} {v : V} (i : Nat), RepVs K H ι ds xs → RepV K H ι d v → RepVs K H ι (ds.set i d) (xs.set i v)
  | [], _, _, _, _, h, _ => by cases h; rfl
  | _ :: ds, _, _, _, 0, h, g => by
    obtain ⟨x, r, rfl, h2, h3⟩ := h
    exact ⟨_, r, rfl, g, h3⟩
  | _ :: ds, _, _, _, i + 1, h, g => by
    obtain ⟨x, r, rfl, h2, h3⟩ := h
    exact ⟨x, r.set i _, rfl, h2, RepVs.set i h3 g⟩
/-- a new object that the store does not know -/
theorem Tr.new {p : Addr} {o : HO} (R : RepS K H ι S) (h : H p = none) : Tr H ι (upd H p o) ι :=
  ⟨⟨[], by simp, by simp⟩, fun a u e _ => by rw [upd_ne (ne_of_none e h)]; exact e⟩
theorem RepS.new {p : Addr} {o : HO} (R : RepS K H ι S) (h : H p = none) : RepS K (upd H p o) ι S :=
  ⟨R.len, R.nd, fun n a u e1 e2 => by
    have q := R.ob n a u e1 e2
    cases u with
    | lst ds =>
      obtain ⟨xs, e, r⟩ := q
      exact ⟨xs, by rw [upd_ne (ne_of_none e h)]; exact e, RepVs.tr R (Tr.new R h) _ _ r⟩⟩
/-- a new object of the store -/
theorem Tr.alloc {p : Addr} {o : HO} (R : RepS K H ι S) (h : H p = none) : Tr H ι (upd H p o) (ι ++ [p]) :=
  ⟨⟨[p], rfl, fun a ha => by
    rw [List.mem_singleton] at ha
    subst ha
    exact .inr h⟩, fun a u e _ => by rw [upd_ne (ne_of_none e h)]; exact e⟩
theorem RepS.alloc {p : Addr} {xs : List V} {ds : List D} (R : RepS K H ι S) (h : H p = none) (r : RepVs K H ι ds xs) : RepS K (upd H p (.lst xs)) (ι ++ [p]) (S ++ [.lst ds]) := by
  have T : Tr H ι (upd H p (.lst xs)) (ι ++ [p]) := Tr.alloc R h
  refine ⟨by simp [R.len], ?_, fun n a u e1 e2 => ?_⟩
  · rw [List.nodup_append]
    refine ⟨R.nd, by simp, fun a ha b hb => ?_⟩
    rw [List.mem_singleton] at hb
    subst hb
    intro e
    subst e
    exact R.fresh h ha
  · by_cases hn : n < ι.length
    · rw [List.getElem?_append_left hn] at e1
      rw [List.getElem?_append_left (by rw [← R.len]; exact hn)] at e2
      have q := R.ob n a u e1 e2
      cases u with
      | lst es =>
        obtain ⟨ys, e, r'⟩ := q
        exact ⟨ys, by rw [upd_ne (ne_of_none e h)]; exact e, RepVs.tr R T _ _ r'⟩
    · rw [List.getElem?_append_right (Nat.le_of_not_lt hn)] at e1
      rw [List.getElem?_append_right (by rw [← R.len]; exact Nat.le_of_not_lt hn), ← R.len] at e2
      cases hk : n - ι.length with
      | zero =>
        rw [hk] at e1 e2
        simp at e1 e2
        subst e1
        subst e2
        exact ⟨xs, upd_same, RepVs.tr R T _ _ r⟩
      | succ k =>
        rw [hk] at e1
        simp at e1
theorem RepV.new {p : Addr} {xs : List V} (R : RepS K H ι S) : RepV K (upd H p (.lst xs)) (ι ++ [p]) (.ref S.length) (.ref p) :=
  ⟨p, by rw [← R.len]; simp, rfl⟩
/-- a list of the store changed -/
theorem Tr.write {n : Nat} {a : Addr} {o : HO} (R : RepS K H ι S) (h : ι[n]? = some a) : Tr H ι (upd H a o) ι :=
  ⟨⟨[], by simp, by simp⟩, fun b u e hn => by
    rw [upd_ne (fun z => hn (by subst z; exact List.mem_of_getElem? h))]
    exact e⟩
theorem RepS.write {n : Nat} {a : Addr} {xs : List V} {ds : List D} (R : RepS K H ι S) (h : ι[n]? = some a) (r : RepVs K H ι ds xs) : RepS K (upd H a (.lst xs)) ι (S.set n (.lst ds)) := by
  have T : Tr H ι (upd H a (.lst xs)) ι := Tr.write R h
  refine ⟨by simp [R.len], R.nd, fun m b u e1 e2 => ?_⟩
  by_cases hm : n = m
  · subst hm
    rw [h] at e1
    cases e1
    rw [List.getElem?_set_self (by
      rw [← R.len]
      exact (List.getElem?_eq_some_iff.mp h).1)] at e2
    cases e2
    exact ⟨xs, upd_same, RepVs.tr R T _ _ r⟩
  · rw [List.getElem?_set_ne hm] at e2
    have q := R.ob m b u e1 e2
    have hb : b ≠ a := fun z => by
      subst z
      have e3 := (List.getElem?_eq_some_iff.mp h)
      have e4 := (List.getElem?_eq_some_iff.mp e1)
      obtain ⟨h3, e3⟩ := e3
      obtain ⟨h4, e4⟩ := e4
      exact hm ((List.getElem_inj R.nd).mp (e3.trans e4.symm))
    cases u with
    | lst es =>
      obtain ⟨ys, e, r'⟩ := q
      exact ⟨ys, by rw [upd_ne hb]; exact e, RepVs.tr R T _ _ r'⟩
theorem RepS.list {n : Nat} {v : V} {ds : List D} (R : RepS K H ι S) (h : RepV K H ι (.ref n) v) (e : S[n]? = some (.lst ds)) : ∃ a xs, v = .ref a ∧ ι[n]? = some a ∧ H a = some (.lst xs) ∧ RepVs K H ι ds xs := by
  obtain ⟨a, e1, e2⟩ := h
  obtain ⟨xs, q1, q2⟩ := R.ob n a _ e1 e
  exact ⟨a, xs, e2, e1, q1, q2⟩
theorem RepE.put {i : Nat} {d : D} {v : V} (h : RepE K H ι σ ρ) (r : RepV K H ι d v) : RepE K H ι (σ.set i (some v)) (putR ρ i (some d)) := by
  refine ⟨by rw [List.length_set, putR_len]; exact h.len, fun j e hj => ?_⟩
  rw [look_putR] at hj
  split at hj
  · rename_i c
    cases hj
    obtain ⟨c1, c2⟩ := c
    subst c1
    exact ⟨v, List.getElem?_set_self (by rw [h.len]; exact c2), r⟩
  · rename_i c
    obtain ⟨u, e1, e2⟩ := h.at_ j e hj
    by_cases hij : i = j
    · subst hij
      have : i < σ.length := (List.getElem?_eq_some_iff.mp e1).1
      exact absurd ⟨rfl, by rw [← h.len]; exact this⟩ c
    · exact ⟨u, by rw [List.getElem?_set_ne hij]; exact e1, e2⟩
theorem RepE.wipe1 {i : Nat} (h : RepE K H ι σ ρ) : RepE K H ι (σ.set i none) (putR ρ i none) := by
  refine ⟨by rw [List.length_set, putR_len]; exact h.len, fun j e hj => ?_⟩
  rw [look_putR] at hj
  split at hj
  · cases hj
  · rename_i c
    obtain ⟨u, e1, e2⟩ := h.at_ j e hj
    by_cases hij : i = j
    · subst hij
      have : i < σ.length := (List.getElem?_eq_some_iff.mp e1).1
      exact absurd ⟨rfl, by rw [← h.len]; exact this⟩ c
    · exact ⟨u, by rw [List.getElem?_set_ne hij]; exact e1, e2⟩
def wipeR (ρ : Rho) : List Nat → Rho
  | [] => ρ
  | v :: vs => putR (wipeR ρ vs) v none
theorem RepE.wipe (h : RepE K H ι σ ρ) : ∀ vs : List Nat, RepE K H ι (L2.wipe σ vs) (wipeR ρ vs)
  | [] => h
  | v :: vs => (RepE.wipe h vs).wipe1
theorem RepE.start : ∀ {ds : List D} {vs : List V}, RepVs K H ι ds vs → ∀ n, RepE K H ι (vs.map some ++ List.replicate n none) (ds.map some ++ List.replicate n none) := fun {ds vs} h n => by
  refine ⟨by simp [h.length], fun i d hi => ?_⟩
  rw [look_get] at hi
  by_cases hl : i < ds.length
  · rw [List.getElem?_append_left (by simpa using hl)] at hi
    have e1 : ds[i]? = some d := by
      rw [List.getElem?_map] at hi
      cases q : ds[i]? with
      | none => rw [q] at hi; simp at hi
      | some z => rw [q] at hi; simpa using hi
    obtain ⟨x, e2, r⟩ := h.get e1
    refine ⟨x, ?_, r⟩
    rw [List.getElem?_append_left (by rw [List.length_map]; exact (List.getElem?_eq_some_iff.mp e2).1), List.getElem?_map, e2]
    rfl
  · rw [List.getElem?_append_right (by simpa using hl), List.getElem?_replicate] at hi
    split at hi <;> simp at hi
end
end WW


set_option Elab.async false
set_option linter.all false
set_option maxRecDepth 100000
set_option maxHeartbeats 4000000
set_option autoImplicit false
namespace WW
open PySem PySem.Spec PyProof.Rows L2

/-! ### values: operators, comparisons, truth, subscripts, calls -/
/-! data of any depth, read through the store -/
mutual
inductive DpD (S : Sto) : D → PyData → Prop
  | non : DpD S .non .none
  | bl (b : Bool) : DpD S (.bl b) (.bool b)
  | int (i : Int) : DpD S (.int i) (.int i)
  | str (x : Str) : DpD S (.str x) (.str x)
  | lst {n : Nat} {xs : List D} {ds : List PyData} : S[n]? = some (.lst xs) → DpAllD S xs ds → DpD S (.ref n) (.list ds)
  | fro {xs : List D} {ds : List PyData} : DpAllD S xs ds → DpD S (.fro xs) (.list ds)
  | tup {xs : List D} {ds : List PyData} : DpAllD S xs ds → DpD S (.tup xs) (.tuple ds)
inductive DpAllD (S : Sto) : List D → List PyData → Prop
  | nil : DpAllD S [] []
  | cons {v : D} {vs : List D} {d : PyData} {ds : List PyData} : DpD S v d → DpAllD S vs ds → DpAllD S (v :: vs) (d :: ds)
end
section
variable {K : PySem.W.Frag} {H : Hp} {ι : List Addr} {S : Sto}
mutual
theorem DpD.dp (R : RepS K H ι S) : ∀ (p : PyData) (d : D) (v : V), DpD S d p → RepV K H ι d v → Dp K H v p
  | .none, _, _, h, r => by cases h; cases r; exact .non
  | .bool b, _, _, h, r => by cases h; cases r; exact .bl b
  | .int i, _, _, h, r => by cases h; cases r; exact .int i
  | .str x, _, _, h, r => by cases h; cases r; exact .str x
  | .list ps, _, _, h, r => by
    cases h with
    | lst e ha =>
      obtain ⟨a, xs, rfl, _, q1, q2⟩ := R.list r e
      exact .lst (.inl (.inl q1)) (DpAllD.dp R ps _ xs ha q2)
    | fro ha =>
      obtain ⟨a, xs, rfl, q1, q2⟩ := r
      exact .lst q1.sq (DpAllD.dp R ps _ xs ha q2)
  | .tuple ps, _, _, h, r => by
    cases h with
    | tup ha =>
      obtain ⟨a, xs, rfl, q1, q2⟩ := r
      exact .tup q1 (DpAllD.dp R ps _ xs ha q2)
  | .dict _, _, _, h, _ => by cases h
theorem DpAllD.dp (R : RepS K H ι S) : ∀ (ps : List PyData) (ds : List D) (xs : List V), DpAllD S ds ps → RepVs K H ι ds xs → DpAll K H xs ps
  | [], _, _, h, r => by cases h; cases r; exact .nil
  | p :: ps, _, _, h, r => by
    cases h with
    | cons h1 h2 =>
      obtain ⟨x, t, rfl, r1, r2⟩ := r
      exact .cons (DpD.dp R p _ x h1 r1) (DpAllD.dp R ps _ t h2 r2)
end
end

/-- what a value-level operation hands back -/
def Ok1 (K : PySem.W.Frag) (H : Hp) (ι : List Addr) (Q : Q1) (QV : VK) : Prop := ∀ d S', Q d S' → ∀ v H' ι', Tr H ι H' ι' → RepS K H' ι' S' → RepV K H' ι' d v → QV v H'
section
variable {K : PySem.W.Frag} {H : Hp} {ι : List Addr} {S : Sto} {Q : Q1} {QV : VK}
theorem Ok1.here (h : Ok1 K H ι Q QV) (R : RepS K H ι S) {d : D} {v : V} (r : RepV K H ι d v) (q : Q d S) : QV v H := h d S q v H ι (Tr.refl _ _) R r
theorem Ok1.newL (h : Ok1 K H ι Q QV) (R : RepS K H ι S) {ds : List D} {xs : List V} (r : RepVs K H ι ds xs) (q : Q (.ref S.length) (S ++ [.lst ds])) : ∀ p, H p = none → QV (.ref p) (upd H p (.lst xs)) := fun p hp =>
  h _ _ q _ _ _ (Tr.alloc R hp) (RepS.alloc R hp r) (RepV.new R)
theorem Ok1.newT (h : Ok1 K H ι Q QV) (R : RepS K H ι S) {ds : List D} {xs : List V} (r : RepVs K H ι ds xs) (q : Q (.tup ds) S) : ∀ p, H p = none → QV (.ref p) (upd H p (.tup xs)) := fun p hp =>
  h _ _ q _ _ _ (Tr.new R hp) (RepS.new R hp) ⟨p, xs, rfl, .inl (.inl upd_same), RepVs.tr R (Tr.new R hp) _ _ r⟩
end
abbrev OpD := D → D → Sto → Q1 → Prop
structure OpS (X : Cx) (f : Value → Value → Sem Value) (o : OpD) : Prop where
  mono : ∀ x y S (Q Q' : Q1), (∀ d S', Q d S' → Q' d S') → o x y S Q → o x y S Q'
  rd : ∃ r : R2, OpR X f r ∧ ∀ x y S Q vx vy H ι QV, RepS X.K H ι S → RepV X.K H ι x vx → RepV X.K H ι y vy → o x y S Q → Ok1 X.K H ι Q QV → r vx vy H QV

def opAdd : OpD
  | .int i, .int j, S, Q => Q (.int (i + j)) S
  | .str s, .str t, S, Q => s.length + t.length ≤ sizeLine ∧ Q (.str (s ++ t)) S
  | .tup xs, .tup ys, S, Q => xs.length + ys.length ≤ sizeLine ∧ Q (.tup (xs ++ ys)) S
  | .ref m, .ref n, S, Q => ∃ xs ys, S[m]? = some (.lst xs) ∧ S[n]? = some (.lst ys) ∧ xs.length + ys.length ≤ sizeLine ∧ Q (.ref S.length) (S ++ [.lst (xs ++ ys)])
  | _, _, _, _ => False
def opSub : OpD
  | .int i, .int j, S, Q => Q (.int (i - j)) S
  | _, _, _, _ => False
def opMul : OpD
  | .int i, .int j, S, Q => (CMul i j ∨ CMulW i j) ∧ Q (.int (i * j)) S
  | _, _, _, _ => False
def opDiv : OpD
  | .int i, .int j, S, Q => CDivW i j ∧ Q (.int (i / j)) S
  | _, _, _, _ => False
def opMod : OpD
  | .int i, .int j, S, Q => 0 < j ∧ Q (.int (i % j)) S
  | _, _, _, _ => False
def opPow : OpD
  | .int i, .int j, S, Q => CPow i j ∧ Q (.int (i ^ j.toNat)) S
  | _, _, _, _ => False
def opShl : OpD
  | .int i, .int j, S, Q => CShl i j ∧ Q (.int (i * 2 ^ j.toNat)) S
  | _, _, _, _ => False
def opShr : OpD
  | .int i, .int j, S, Q => 0 ≤ j ∧ Q (.int (i / 2 ^ j.toNat)) S
  | _, _, _, _ => False
def opAnd : OpD
  | .int i, .int j, S, Q => Q (.int (Builtin.bitAnd i j)) S
  | _, _, _, _ => False
def opOr : OpD
  | .int i, .int j, S, Q => Q (.int (Builtin.bitOr i j)) S
  | _, _, _, _ => False
def opXor : OpD
  | .int i, .int j, S, Q => Q (.int (Builtin.bitXor i j)) S
  | _, _, _, _ => False
def opD : Operator → OpD
  | .Add => opAdd
  | .Sub => opSub
  | .Mult => opMul
  | .FloorDiv => opDiv
  | .Mod => opMod
  | .Pow => opPow
  | .LShift => opShl
  | .RShift => opShr
  | .BitAnd => opAnd
  | .BitOr => opOr
  | .BitXor => opXor
  | _ => fun _ _ _ _ => False
section
variable {X : Cx}
theorem opS_int {f : Value → Value → Sem Value} {C : Int → Int → Prop} {g : Int → Int → Int} {o : OpD} (hr : OpR X f (rI C fun i j => .int (g i j)))
    (e : ∀ i j S Q, o (.int i) (.int j) S Q = (C i j ∧ Q (.int (g i j)) S)) (n : ∀ x y S Q, o x y S Q → ∃ i j, x = .int i ∧ y = .int j) : OpS X f o where
  mono := fun x y S Q Q' h q => by
    obtain ⟨i, j, rfl, rfl⟩ := n x y S Q q
    rw [e] at q ⊢
    exact ⟨q.1, h _ _ q.2⟩
  rd := ⟨_, hr, fun x y S Q vx vy H ι QV R rx ry q k => by
    obtain ⟨i, j, rfl, rfl⟩ := n x y S Q q
    rw [e] at q
    cases rx
    cases ry
    exact ⟨i, j, rfl, rfl, q.1, k.here R (d := .int _) rfl q.2⟩⟩
theorem opS_int0 {f : Value → Value → Sem Value} {g : Int → Int → Int} {o : OpD} (hr : OpR X f (rI0 fun i j => .int (g i j)))
    (e : ∀ i j S Q, o (.int i) (.int j) S Q = Q (.int (g i j)) S) (n : ∀ x y S Q, o x y S Q → ∃ i j, x = .int i ∧ y = .int j) : OpS X f o where
  mono := fun x y S Q Q' h q => by
    obtain ⟨i, j, rfl, rfl⟩ := n x y S Q q
    rw [e] at q ⊢
    exact h _ _ q
  rd := ⟨_, hr, fun x y S Q vx vy H ι QV R rx ry q k => by
    obtain ⟨i, j, rfl, rfl⟩ := n x y S Q q
    rw [e] at q
    cases rx
    cases ry
    exact ⟨i, j, rfl, rfl, k.here R (d := .int _) rfl q⟩⟩
theorem OpR.weak {f : Value → Value → Sem Value} {r r' : R2} (h : OpR X f r) (w : ∀ x y H Q, r' x y H Q → r x y H Q) : OpR X f r' := fun pins s σ H x y v u Q I rx ry q => h pins s σ H x y v u Q I rx ry (w _ _ _ _ q)
theorem opMul_r : OpR X (binaryOp .Mult) (rI (fun i j => CMul i j ∨ CMulW i j) fun i j => .int (i * j)) := OpR.weak (op_mul.or op_mulW) fun x y H Q ⟨i, j, e1, e2, c, q⟩ => by
  rcases c with c | c
  · exact .inl ⟨i, j, e1, e2, c, q⟩
  · exact .inr ⟨i, j, e1, e2, c, q⟩
theorem opAdd_S : OpS X (binaryOp .Add) opAdd where
  mono := fun x y S Q Q' h q => by
    cases x <;> cases y <;> try exact q
    · exact h _ _ q
    · exact ⟨q.1, h _ _ q.2⟩
    · exact ⟨q.1, h _ _ q.2⟩
    · obtain ⟨xs, ys, h1, h2, h3, h4⟩ := q
      exact ⟨xs, ys, h1, h2, h3, h _ _ h4⟩
  rd := ⟨_, op_add.or (op_add_str.or (op_catA.or op_cat)), fun x y S Q vx vy H ι QV R rx ry q k => by
    cases x <;> cases y <;> try exact q.elim
    · cases rx
      cases ry
      exact .inl ⟨_, _, rfl, rfl, k.here R (d := .int _) rfl q⟩
    · cases rx
      cases ry
      exact .inr (.inl ⟨_, _, rfl, rfl, q.1, k.here R (d := .str _) rfl q.2⟩)
    · rename_i ds es
      obtain ⟨a, xs, rfl, hx, qx⟩ := rx
      obtain ⟨b, ys, rfl, hy, qy⟩ := ry
      refine .inr (.inr (.inl ⟨a, b, xs, ys, rfl, rfl, hx, hy, ?_, fun e => ?_, fun _ e => ?_, fun _ _ => ?_⟩))
      · rw [← qx.length, ← qy.length]; exact q.1
      · subst e
        have e1 : ds = [] := List.eq_nil_of_length_eq_zero (by rw [qx.length]; rfl)
        subst e1
        exact k.here R (d := .tup es) ⟨b, ys, rfl, hy, qy⟩ q.2
      · subst e
        have e1 : es = [] := List.eq_nil_of_length_eq_zero (by rw [qy.length]; rfl)
        subst e1
        have q2 := q.2
        rw [List.append_nil] at q2
        exact k.here R (d := .tup ds) ⟨a, xs, rfl, hx, qx⟩ q2
      · exact k.newT R (RepVs.app qx qy) q.2
    · obtain ⟨xs, ys, h1, h2, h3, h4⟩ := q
      obtain ⟨a, vs, rfl, _, e1, r1⟩ := R.list rx h1
      obtain ⟨b, ws, rfl, _, e2, r2⟩ := R.list ry h2
      exact .inr (.inr (.inr ⟨a, b, vs, ws, rfl, rfl, e1, e2, by rw [← r1.length, ← r2.length]; exact h3, k.newL R (RepVs.app r1 r2) h4⟩))⟩
theorem op_none {f : Value → Value → Sem Value} : OpR X f (fun _ _ _ _ => False) := fun _ _ _ _ _ _ _ _ _ _ _ _ q => q.elim
theorem opD_S : ∀ op : Operator, OpS X (binaryOp op) (opD op)
  | .Add => opAdd_S
  | .Sub => opS_int0 op_sub (fun _ _ _ _ => rfl) fun x y S Q q => by cases x <;> cases y <;> first | exact ⟨_, _, rfl, rfl⟩ | exact q.elim
  | .Mult => opS_int opMul_r (fun _ _ _ _ => rfl) fun x y S Q q => by cases x <;> cases y <;> first | exact ⟨_, _, rfl, rfl⟩ | exact q.elim
  | .FloorDiv => opS_int op_fdivW (fun _ _ _ _ => rfl) fun x y S Q q => by cases x <;> cases y <;> first | exact ⟨_, _, rfl, rfl⟩ | exact q.elim
  | .Mod => opS_int op_mod (fun _ _ _ _ => rfl) fun x y S Q q => by cases x <;> cases y <;> first | exact ⟨_, _, rfl, rfl⟩ | exact q.elim
  | .Pow => opS_int op_pow (fun _ _ _ _ => rfl) fun x y S Q q => by cases x <;> cases y <;> first | exact ⟨_, _, rfl, rfl⟩ | exact q.elim
  | .LShift => opS_int op_shlW (fun _ _ _ _ => rfl) fun x y S Q q => by cases x <;> cases y <;> first | exact ⟨_, _, rfl, rfl⟩ | exact q.elim
  | .RShift => opS_int op_shr (fun _ _ _ _ => rfl) fun x y S Q q => by cases x <;> cases y <;> first | exact ⟨_, _, rfl, rfl⟩ | exact q.elim
  | .BitAnd => opS_int0 op_and (fun _ _ _ _ => rfl) fun x y S Q q => by cases x <;> cases y <;> first | exact ⟨_, _, rfl, rfl⟩ | exact q.elim
  | .BitOr => opS_int0 op_or (fun _ _ _ _ => rfl) fun x y S Q q => by cases x <;> cases y <;> first | exact ⟨_, _, rfl, rfl⟩ | exact q.elim
  | .BitXor => opS_int0 op_xor (fun _ _ _ _ => rfl) fun x y S Q q => by cases x <;> cases y <;> first | exact ⟨_, _, rfl, rfl⟩ | exact q.elim
  | .Div => ⟨fun _ _ _ _ _ _ q => q.elim, _, op_none, fun _ _ _ _ _ _ _ _ _ _ _ _ q => q.elim⟩
  | .MatMult => ⟨fun _ _ _ _ _ _ q => q.elim, _, op_none, fun _ _ _ _ _ _ _ _ _ _ _ _ q => q.elim⟩
end
end WW


set_option Elab.async false
set_option linter.all false
set_option maxRecDepth 100000
set_option maxHeartbeats 4000000
set_option autoImplicit false
namespace WW
open PySem PySem.Spec PyProof.Rows L2

def sg : Bool → Bool → Bool
  | false, b => b
  | true, b => !b
def scalD : D → D → Option Bool
  | .non, .non => some true
  | .int i, .int j => some (decide (i = j))
  | .bl i, .bl j => some (decide (i = j))
  | .str i, .str j => some (decide (i = j))
  | .non, .int _ => some false
  | .int _, .non => some false
  | .non, .bl _ => some false
  | .bl _, .non => some false
  | .non, .str _ => some false
  | .str _, .non => some false
  | .int _, .str _ => some false
  | .str _, .int _ => some false
  | _, _ => none
def cmpEq (neg : Bool) : OpD := fun x y S Q => match scalD x y with
  | some b => Q (.bl (sg neg b)) S
  | none => ∃ p q, DpD S x p ∧ DpD S y q ∧ SeqAt.shaped p = true ∧ SeqAt.shaped q = true ∧ Q (.bl (sg neg (PyData.eqv p q))) S
def cmpII (f : Int → Int → Bool) : OpD
  | .int i, .int j, S, Q => Q (.bl (f i j)) S
  | _, _, _, _ => False
def flatD : D → Bool
  | .non => true
  | .bl _ => true
  | .int _ => true
  | .str _ => true
  | _ => false
def eqF : D → D → Bool
  | .non, .non => true
  | .bl a, .bl b => a == b
  | .bl a, .int b => (if a then 1 else 0) == b
  | .int a, .bl b => a == (if b then 1 else 0)
  | .int a, .int b => a == b
  | .str a, .str b => a == b
  | _, _ => false
def inF (x : D) (xs : List D) : Bool := xs.any fun y => eqF y x
def cmpIn (neg : Bool) : OpD
  | x, .tup ds, S, Q => flatD x = true ∧ ds.all flatD = true ∧ Q (.bl (sg neg (inF x ds))) S
  | x, .ref n, S, Q => ∃ ds, S[n]? = some (.lst ds) ∧ flatD x = true ∧ ds.all flatD = true ∧ Q (.bl (sg neg (inF x ds))) S
  | _, _, _, _ => False
def isNon : D → Bool
  | .non => true
  | _ => false
def cmpIs (neg : Bool) : OpD
  | x, .non, S, Q => Q (.bl (sg neg (isNon x))) S
  | _, _, _, _ => False
def cmpD : CmpOp → OpD
  | .Eq => cmpEq false
  | .NotEq => cmpEq true
  | .Lt => cmpII fun i j => decide (i < j)
  | .LtE => cmpII fun i j => decide (i ≤ j)
  | .Gt => cmpII fun i j => decide (j < i)
  | .GtE => cmpII fun i j => decide (j ≤ i)
  | .Is => cmpIs false
  | .IsNot => cmpIs true
  | .In => cmpIn false
  | .NotIn => cmpIn true
section
variable {X : Cx} {K : PySem.W.Frag} {H : Hp} {ι : List Addr} {S : Sto}
theorem eqF_V : ∀ {x y : D} {v w : V}, RepV K H ι x v → RepV K H ι y w → flatD x = true → flatD y = true → eqV v w = eqF x y := fun {x y v w} rx ry fx fy => by
  cases x <;> cases fx <;> cases y <;> cases fy <;> cases rx <;> cases ry <;> rfl
theorem flat_V {x : D} {v : V} (r : RepV K H ι x v) (f : flatD x = true) : flatV v = true := by
  cases x <;> cases f <;> cases r <;> rfl
theorem flat_Vs : ∀ {ds : List D} {vs : List V}, RepVs K H ι ds vs → ds.all flatD = true → vs.all flatV = true
  | [], _, h, _ => by cases h; rfl
  | d :: ds, _, h, f => by
    obtain ⟨x, r, rfl, h2, h3⟩ := h
    rw [List.all_cons, Bool.and_eq_true_iff] at f ⊢
    exact ⟨flat_V h2 f.1, flat_Vs h3 f.2⟩
theorem inF_V : ∀ {ds : List D} {vs : List V} {x : D} {v : V}, RepVs K H ι ds vs → RepV K H ι x v → flatD x = true → ds.all flatD = true → inV v vs = inF x ds
  | [], _, _, _, h, _, _, _ => by cases h; rfl
  | d :: ds, _, x, v, h, rx, fx, f => by
    obtain ⟨y, r, rfl, h2, h3⟩ := h
    rw [List.all_cons, Bool.and_eq_true_iff] at f
    unfold inV inF
    rw [List.any_cons, List.any_cons, eqF_V h2 rx f.1 fx]
    have := inF_V h3 rx fx f.2
    unfold inV inF at this
    rw [this]
theorem sg_if (neg b : Bool) : (if neg = true then !b else b) = sg neg b := by cases neg <;> rfl
theorem scal_V {x y : D} {v w : V} {b : Bool} (rx : RepV K H ι x v) (ry : RepV K H ι y w) (e : scalD x y = some b) : scal v w = true ∧ decide (v = w) = b := by
  cases x <;> cases y <;> simp only [scalD, reduceCtorEq, Option.some.injEq] at e
  all_goals (cases rx; cases ry; refine ⟨rfl, ?_⟩; rw [← e]; simp)
theorem cmpEq_mono (neg : Bool) : ∀ x y S (Q Q' : Q1), (∀ d S', Q d S' → Q' d S') → cmpEq neg x y S Q → cmpEq neg x y S Q' := fun x y S Q Q' h q => by
  unfold cmpEq at q ⊢
  split at q
  · exact h _ _ q
  · obtain ⟨p, r, h1, h2, h3, h4, h5⟩ := q
    exact ⟨p, r, h1, h2, h3, h4, h _ _ h5⟩
theorem opEq_S (hu : X.A.units + 64 < cLine) : OpS X (compareOp .Eq) (cmpEq false) where
  mono := cmpEq_mono false
  rd := ⟨_, op_eq.or (op_eqD hu), fun x y S Q vx vy H ι QV R rx ry q k => by
    unfold cmpEq at q
    split at q
    · rename_i b e
      obtain ⟨h1, h2⟩ := scal_V rx ry e
      exact .inl ⟨h1, by rw [h2]; exact k.here R (d := .bl _) rfl q⟩
    · obtain ⟨p, r, h1, h2, h3, h4, h5⟩ := q
      exact .inr ⟨p, r, DpD.dp R p _ _ h1 rx, DpD.dp R r _ _ h2 ry, h3, h4, k.here R (d := .bl _) rfl h5⟩⟩
theorem opNe_S (hu : X.A.units + 64 < cLine) : OpS X (compareOp .NotEq) (cmpEq true) where
  mono := cmpEq_mono true
  rd := ⟨_, op_ne.or (op_neD hu), fun x y S Q vx vy H ι QV R rx ry q k => by
    unfold cmpEq at q
    split at q
    · rename_i b e
      obtain ⟨h1, h2⟩ := scal_V rx ry e
      exact .inl ⟨h1, by rw [h2]; exact k.here R (d := .bl _) rfl q⟩
    · obtain ⟨p, r, h1, h2, h3, h4, h5⟩ := q
      exact .inr ⟨p, r, DpD.dp R p _ _ h1 rx, DpD.dp R r _ _ h2 ry, h3, h4, k.here R (d := .bl _) rfl h5⟩⟩
theorem opII_S {op : CmpOp} {f : Int → Int → Bool} (h : OpR X (compareOp op) (rI0 fun i j => .bl (f i j))) : OpS X (compareOp op) (cmpII f) where
  mono := fun x y S Q Q' h q => by cases x <;> cases y <;> first | exact h _ _ q | exact q
  rd := ⟨_, h, fun x y S Q vx vy H ι QV R rx ry q k => by
    cases x <;> cases y <;> try exact q.elim
    cases rx
    cases ry
    exact ⟨_, _, rfl, rfl, k.here R (d := .bl _) rfl q⟩⟩
theorem opIn_S {op : CmpOp} {neg : Bool} (h : OpR X (compareOp op) (rIn X.K neg)) : OpS X (compareOp op) (cmpIn neg) where
  mono := fun x y S Q Q' h q => by
    cases y <;> try exact q.elim
    · exact ⟨q.1, q.2.1, h _ _ q.2.2⟩
    · obtain ⟨ds, h1, h2, h3, h4⟩ := q
      exact ⟨ds, h1, h2, h3, h _ _ h4⟩
  rd := ⟨_, h, fun x y S Q vx vy H ι QV R rx ry q k => by
    cases y <;> try exact q.elim
    · obtain ⟨a, xs, rfl, hx, r⟩ := ry
      obtain ⟨q1, q2, q3⟩ := q
      refine ⟨a, xs, rfl, .inr hx, flat_V rx q1, flat_Vs r q2, ?_⟩
      rw [inF_V r rx q1 q2, sg_if]
      exact k.here R (d := .bl _) rfl q3
    · obtain ⟨ds, h1, q1, q2, q3⟩ := q
      obtain ⟨a, xs, rfl, _, hx, r⟩ := R.list ry h1
      refine ⟨a, xs, rfl, .inl (.inl (.inl hx)), flat_V rx q1, flat_Vs r q2, ?_⟩
      rw [inF_V r rx q1 q2, sg_if]
      exact k.here R (d := .bl _) rfl q3⟩
theorem non_V {x : D} {v : V} (r : RepV K H ι x v) : decide (v = .non) = isNon x := by
  cases x with
  | non => cases r; rfl
  | bl b => cases r; rfl
  | int i => cases r; rfl
  | str s => cases r; rfl
  | tup ds => obtain ⟨a, xs, rfl, _⟩ := r; rfl
  | fro ds => obtain ⟨a, xs, rfl, _⟩ := r; rfl
  | ref n => obtain ⟨a, _, rfl⟩ := r; rfl
theorem opIs_S : OpS X (compareOp .Is) (cmpIs false) where
  mono := fun x y S Q Q' h q => by cases y <;> first | exact q.elim | exact h _ _ q
  rd := ⟨_, op_isN, fun x y S Q vx vy H ι QV R rx ry q k => by
    cases y <;> try exact q.elim
    cases ry
    refine ⟨rfl, ?_⟩
    rw [non_V rx]
    exact k.here R (d := .bl _) rfl q⟩
theorem opIsNot_S : OpS X (compareOp .IsNot) (cmpIs true) where
  mono := fun x y S Q Q' h q => by cases y <;> first | exact q.elim | exact h _ _ q
  rd := ⟨_, op_notN, fun x y S Q vx vy H ι QV R rx ry q k => by
    cases y <;> try exact q.elim
    cases ry
    refine ⟨rfl, ?_⟩
    rw [non_V rx]
    exact k.here R (d := .bl _) rfl q⟩
theorem cmpD_S (hu : X.A.units + 64 < cLine) : ∀ op : CmpOp, OpS X (compareOp op) (cmpD op)
  | .Eq => opEq_S hu
  | .NotEq => opNe_S hu
  | .Lt => opII_S op_lt
  | .LtE => opII_S op_le
  | .Gt => opII_S op_gt
  | .GtE => opII_S op_ge
  | .Is => opIs_S
  | .IsNot => opIsNot_S
  | .In => opIn_S op_in_seq
  | .NotIn => opIn_S op_notIn_seq
end

/-! truth -/
def truD : D → Sto → (Bool → Prop) → Prop
  | .non, _, Q => Q false
  | .bl b, _, Q => Q b
  | .int i, _, Q => Q (i != 0)
  | .str s, _, Q => s.length ≤ sizeLine ∧ Q ((s.length : Int) != 0)
  | .tup ds, _, Q => Q (!ds.isEmpty)
  | .fro ds, _, Q => Q (!ds.isEmpty)
  | .ref n, S, Q => ∃ ds, S[n]? = some (.lst ds) ∧ Q (!ds.isEmpty)
theorem truD_mono {d : D} {S : Sto} {Q Q' : Bool → Prop} (h : ∀ b, Q b → Q' b) (q : truD d S Q) : truD d S Q' := by
  cases d <;> first | exact h _ q | exact ⟨q.1, h _ q.2⟩ | exact let ⟨ds, a, b⟩ := q; ⟨ds, a, h _ b⟩
theorem empty_V {K : PySem.W.Frag} {H : Hp} {ι : List Addr} {ds : List D} {vs : List V} (r : RepVs K H ι ds vs) : (!vs.isEmpty) = !ds.isEmpty := by
  cases ds with
  | nil => cases r; rfl
  | cons d ds => obtain ⟨x, t, rfl, _⟩ := r; rfl
theorem truD_V {K : PySem.W.Frag} {H : Hp} {ι : List Addr} {S : Sto} {d : D} {v : V} {Q : Bool → Prop} (R : RepS K H ι S) (r : RepV K H ι d v) (q : truD d S Q) : ∃ k, TruV K v H k ∧ Q k := by
  cases d with
  | non => cases r; exact ⟨_, rfl, q⟩
  | bl b => cases r; exact ⟨_, rfl, q⟩
  | int i => cases r; exact ⟨_, rfl, q⟩
  | str s => cases r; exact ⟨_, ⟨q.1, rfl⟩, q.2⟩
  | tup ds =>
    obtain ⟨a, xs, rfl, hx, rr⟩ := r
    exact ⟨_, .inr (.inl ⟨xs, hx, rfl⟩), by rw [empty_V rr]; exact q⟩
  | fro ds =>
    obtain ⟨a, xs, rfl, hx, rr⟩ := r
    exact ⟨_, .inl ⟨xs, hx.sq, rfl⟩, by rw [empty_V rr]; exact q⟩
  | ref n =>
    obtain ⟨ds, e, q⟩ := q
    obtain ⟨a, xs, rfl, _, hx, rr⟩ := R.list r e
    exact ⟨_, .inl ⟨xs, .inl (.inl hx), rfl⟩, by rw [empty_V rr]; exact q⟩

/-! subscripts and slices -/
def gv {α : Type} : Option α → (α → Prop) → Prop
  | some d, Q => Q d
  | none, _ => False
theorem gv_iff {α : Type} {o : Option α} {Q : α → Prop} : gv o Q ↔ ∃ d, o = some d ∧ Q d := by
  cases o with
  | none => exact ⟨fun h => h.elim, fun ⟨_, h, _⟩ => nomatch h⟩
  | some d => exact ⟨fun h => ⟨d, rfl, h⟩, fun ⟨_, h, q⟩ => by cases h; exact q⟩
def idxD : OpD
  | .tup ds, .int i, S, Q => gv (atI ds i) fun d => Q d S
  | .fro ds, .int i, S, Q => gv (atI ds i) fun d => Q d S
  | .ref n, .int i, S, Q => ∃ ds, S[n]? = some (.lst ds) ∧ gv (atI ds i) fun d => Q d S
  | .str z, .int i, S, Q => z.length ≤ sizeLine ∧ gv (atI z.cps.toList i) fun c => Q (.str ⟨#[c]⟩) S
  | _, _, _, _ => False
theorem RepVs.atI {K : PySem.W.Frag} {H : Hp} {ι : List Addr} {ds : List D} {vs : List V} {i : Int} {d : D} (r : RepVs K H ι ds vs) (h : L2.atI ds i = some d) : ∃ v, L2.atI vs i = some v ∧ RepV K H ι d v := by
  unfold L2.atI at h ⊢
  rw [← r.length]
  cases e : ixN ds.length i with
  | none => rw [e] at h; simp at h
  | some j =>
    rw [e] at h
    exact r.get h
theorem idxD_mono : ∀ x y S (Q Q' : Q1), (∀ d S', Q d S' → Q' d S') → idxD x y S Q → idxD x y S Q' := fun x y S Q Q' h q => by
  cases x <;> cases y <;> try exact q.elim
  · obtain ⟨q1, q2⟩ := q
    obtain ⟨d, e, q⟩ := gv_iff.mp q2
    exact ⟨q1, gv_iff.mpr ⟨d, e, h _ _ q⟩⟩
  · obtain ⟨d, e, q⟩ := gv_iff.mp q
    exact gv_iff.mpr ⟨d, e, h _ _ q⟩
  · obtain ⟨d, e, q⟩ := gv_iff.mp q
    exact gv_iff.mpr ⟨d, e, h _ _ q⟩
  · obtain ⟨ds, q1, q2⟩ := q
    obtain ⟨d, e, q⟩ := gv_iff.mp q2
    exact ⟨ds, q1, gv_iff.mpr ⟨d, e, h _ _ q⟩⟩
theorem idxD_V {K : PySem.W.Frag} : ∀ x y S Q vx vy H ι QV, RepS K H ι S → RepV K H ι x vx → RepV K H ι y vy → idxD x y S Q → Ok1 K H ι Q QV → rIx K vx vy H QV := fun x y S Q vx vy H ι QV R rx ry q k => by
  cases x <;> cases y <;> try exact q.elim
  · cases rx
    cases ry
    obtain ⟨q1, q2⟩ := q
    obtain ⟨d, e, q⟩ := gv_iff.mp q2
    exact .inr (.inr ⟨_, _, d, rfl, rfl, q1, e, k.here R (d := .str _) rfl q⟩)
  · cases ry
    obtain ⟨a, xs, rfl, hx, rr⟩ := rx
    obtain ⟨d, e, q⟩ := gv_iff.mp q
    obtain ⟨v, e2, rv⟩ := rr.atI e
    exact .inr (.inl ⟨a, xs, _, v, rfl, rfl, hx, e2, k.here R rv q⟩)
  · cases ry
    obtain ⟨a, xs, rfl, hx, rr⟩ := rx
    obtain ⟨d, e, q⟩ := gv_iff.mp q
    obtain ⟨v, e2, rv⟩ := rr.atI e
    exact .inl ⟨a, xs, _, v, rfl, rfl, hx.sq, e2, k.here R rv q⟩
  · cases ry
    obtain ⟨ds, q1, q2⟩ := q
    obtain ⟨a, xs, rfl, _, hx, rr⟩ := R.list rx q1
    obtain ⟨d, e, q⟩ := gv_iff.mp q2
    obtain ⟨v, e2, rv⟩ := rr.atI e
    exact .inl ⟨a, xs, _, v, rfl, rfl, .inl (.inl hx), e2, k.here R rv q⟩
def cutD (xs : List D) (lo hi : Option Int) : List D := (xs.drop (HT.sIx xs.length 0 lo)).take (HT.sIx xs.length xs.length hi - HT.sIx xs.length 0 lo)
theorem RepVs.cut {K : PySem.W.Frag} {H : Hp} {ι : List Addr} {ds : List D} {vs : List V} (r : RepVs K H ι ds vs) (lo hi : Option Int) : RepVs K H ι (cutD ds lo hi) (cutV vs lo hi) := by
  unfold cutD cutV
  rw [← r.length]
  exact RepVs.take _ (RepVs.drop _ r)
def slcD : D → Option Int → Option Int → Sto → Q1 → Prop
  | .tup ds, lo, hi, S, Q => Q (.tup (cutD ds lo hi)) S
  | .fro ds, lo, hi, S, Q => Q (.ref S.length) (S ++ [.lst (cutD ds lo hi)])
  | .ref n, lo, hi, S, Q => ∃ ds, S[n]? = some (.lst ds) ∧ Q (.ref S.length) (S ++ [.lst (cutD ds lo hi)])
  | .str z, lo, hi, S, Q => z.length ≤ sizeLine ∧ Q (.str (cutS z lo hi)) S
  | _, _, _, _, _ => False
theorem slcD_mono {x : D} {lo hi : Option Int} {S : Sto} {Q Q' : Q1} (h : ∀ d S', Q d S' → Q' d S') (q : slcD x lo hi S Q) : slcD x lo hi S Q' := by
  cases x <;> first | exact q.elim | exact ⟨q.1, h _ _ q.2⟩ | exact h _ _ q | exact let ⟨ds, a, b⟩ := q; ⟨ds, a, h _ _ b⟩
theorem cutD_whole {ds : List D} {lo hi : Option Int} (h : HT.sIx ds.length 0 lo = 0 ∧ HT.sIx ds.length ds.length hi = ds.length) : cutD ds lo hi = ds := by
  unfold cutD
  rw [h.1, h.2]
  simp
def rSlc (K : PySem.W.Frag) : V → Option Int → Option Int → Hp → VK → Prop := fun x lo hi H Q => rSlA K x lo hi H Q ∨ rSlL K x lo hi H Q ∨ rSlS x lo hi H Q
theorem slc_r {X : Cx} : SlR X (rSlc X.K) := SlR.or sl_tupA (SlR.or sl_list sl_str)
theorem slcD_V {K : PySem.W.Frag} {x : D} {lo hi : Option Int} {S : Sto} {Q : Q1} {vx : V} {H : Hp} {ι : List Addr} {QV : VK} (R : RepS K H ι S) (rx : RepV K H ι x vx) (q : slcD x lo hi S Q) (k : Ok1 K H ι Q QV) : rSlc K vx lo hi H QV := by
  cases x <;> try exact q.elim
  · cases rx
    exact .inr (.inr ⟨_, rfl, q.1, k.here R (d := .str _) rfl q.2⟩)
  · rename_i ds
    obtain ⟨a, xs, rfl, hx, rr⟩ := rx
    refine .inl ⟨a, xs, rfl, hx, fun e => ?_, fun _ => ?_⟩
    · have q' : Q (.tup ds) S := by
        have e2 : cutD ds lo hi = ds := cutD_whole (by rw [rr.length]; exact e)
        have q1 : Q (.tup (cutD ds lo hi)) S := q
        rw [e2] at q1
        exact q1
      exact k.here R (d := .tup ds) ⟨a, xs, rfl, hx, rr⟩ q'
    · exact k.newT R (rr.cut lo hi) q
  · obtain ⟨a, xs, rfl, hx, rr⟩ := rx
    exact .inr (.inl ⟨a, xs, rfl, hx.sq, k.newL R (rr.cut lo hi) q⟩)
  · obtain ⟨ds, e, q⟩ := q
    obtain ⟨a, xs, rfl, _, hx, rr⟩ := R.list rx e
    exact .inr (.inl ⟨a, xs, rfl, .inl (.inl hx), k.newL R (rr.cut lo hi) q⟩)
end WW


set_option Elab.async false
set_option linter.all false
set_option maxRecDepth 100000
set_option maxHeartbeats 4000000
set_option autoImplicit false
namespace WW
open PySem PySem.Spec PyProof.Rows L2

/-! ### expressions -/
def MonoW (w : W) : Prop := ∀ ρ S (Q Q' : Q1), (∀ d S', Q d S' → Q' d S') → w ρ S Q → w ρ S Q'
def MonoT (w : WT) : Prop := ∀ ρ S (Q Q' : Bool → Sto → Prop), (∀ d S', Q d S' → Q' d S') → w ρ S Q → w ρ S Q'
def MonoA (w : WA) : Prop := ∀ ρ S (Q Q' : List D → Sto → Prop), (∀ d S', Q d S' → Q' d S') → w ρ S Q → w ρ S Q'
def tE (K : PySem.W.Frag) (w : W) : TE := fun σ H Q => ∃ ρ ι S, RepE K H ι σ ρ ∧ RepS K H ι S ∧ w ρ S fun d S' => ∀ v H' ι', Tr H ι H' ι' → RepS K H' ι' S' → RepV K H' ι' d v → Q v H'
def tT (K : PySem.W.Frag) (w : WT) : TT := fun σ H Q => ∃ ρ ι S, RepE K H ι σ ρ ∧ RepS K H ι S ∧ w ρ S fun b S' => ∀ H' ι', Tr H ι H' ι' → RepS K H' ι' S' → Q b H'
def tA (K : PySem.W.Frag) (w : WA) : TA := fun σ H Q => ∃ ρ ι S, RepE K H ι σ ρ ∧ RepS K H ι S ∧ w ρ S fun ds S' => ∀ vs H' ι', Tr H ι H' ι' → RepS K H' ι' S' → RepVs K H' ι' ds vs → Q vs H'
structure PEw (X : Cx) (e : Expr) (w : W) : Prop where
  mono : MonoW w
  pe : PE X e (tE X.K w)
structure PTw (X : Cx) (e : Expr) (w : WT) : Prop where
  mono : MonoT w
  pe : PT X e (tT X.K w)
structure PWw (X : Cx) (e : Expr) (w : WT) : Prop where
  mono : MonoT w
  pe : PW X e (tT X.K w)
structure PAw (X : Cx) (es : List Expr) (w : WA) : Prop where
  mono : MonoA w
  pe : PA X es (tA X.K w)
theorem PE.weak {X : Cx} {e : Expr} {t t' : TE} (h : PE X e t) (w : ∀ σ H Q, t' σ H Q → t σ H Q) : PE X e t' := ⟨fun pins s σ H Q I q => h.run pins s σ H Q I (w σ H Q q)⟩
theorem PT.weak {X : Cx} {e : Expr} {t t' : TT} (h : PT X e t) (w : ∀ σ H Q, t' σ H Q → t σ H Q) : PT X e t' := ⟨fun pins s σ H Q I q => h.run pins s σ H Q I (w σ H Q q)⟩
theorem PW.weak {X : Cx} {e : Expr} {t t' : TT} (h : PW X e t) (w : ∀ σ H Q, t' σ H Q → t σ H Q) : PW X e t' := ⟨fun wh pins s σ H Q I q => h.run wh pins s σ H Q I (w σ H Q q)⟩
theorem PA.weak {X : Cx} {e : List Expr} {t t' : TA} (h : PA X e t) (w : ∀ σ H Q, t' σ H Q → t σ H Q) : PA X e t' := ⟨fun pos pins s σ H Q I q => h.run pos pins s σ H Q I (w σ H Q q)⟩

def wVar (i : Nat) : W := fun ρ S Q => gv (look ρ i) fun d => Q d S
def wCst (d : D) : W := fun _ S Q => Q d S
def wOp (o : OpD) (a b : W) : W := fun ρ S Q => a ρ S fun x S1 => b ρ S1 fun y S2 => o x y S2 Q
def isInt : D → (Int → Prop) → Prop
  | .int i, Q => Q i
  | _, _ => False
def isBl : D → (Bool → Prop) → Prop
  | .bl i, Q => Q i
  | _, _ => False
def wNeg (a : W) : W := fun ρ S Q => a ρ S fun x S1 => isInt x fun i => Q (.int (-i)) S1
def wNotV (a : W) : W := fun ρ S Q => a ρ S fun x S1 => truD x S1 fun k => Q (.bl (!k)) S1
def wAndV (a b : W) : W := fun ρ S Q => a ρ S fun x S1 => truD x S1 fun k => if k = true then b ρ S1 Q else Q x S1
def wOrV (a b : W) : W := fun ρ S Q => a ρ S fun x S1 => truD x S1 fun k => if k = true then Q x S1 else b ρ S1 Q
def wChain (o p : OpD) (a b c : W) : W := fun ρ S Q => a ρ S fun x S1 => b ρ S1 fun y S2 => o x y S2 fun z S3 => isBl z fun k => if k = true then c ρ S3 fun u S4 => p y u S4 Q else Q (.bl false) S3
def wIf (t : WT) (a b : W) : W := fun ρ S Q => t ρ S fun k S1 => if k = true then a ρ S1 Q else b ρ S1 Q
def wNil : WA := fun _ S Q => Q [] S
def wCons (a : W) (r : WA) : WA := fun ρ S Q => a ρ S fun x S1 => r ρ S1 fun xs S2 => Q (x :: xs) S2
def wTup (a : WA) : W := fun ρ S Q => a ρ S fun xs S1 => xs.length ≤ sizeLine ∧ Q (.tup xs) S1
def wLst (a : WA) : W := fun ρ S Q => a ρ S fun xs S1 => xs.length ≤ sizeLine ∧ Q (.ref S1.length) (S1 ++ [.lst xs])
def wNoP : Rho → Sto → (Option Int → Sto → Prop) → Prop := fun _ S Q => Q none S
def wPart (a : W) : Rho → Sto → (Option Int → Sto → Prop) → Prop := fun ρ S Q => a ρ S fun x S1 => isInt x fun i => Q (some i) S1
abbrev WO := Rho → Sto → (Option Int → Sto → Prop) → Prop
def wSlc (a : W) (lo hi : WO) : W := fun ρ S Q => a ρ S fun x S1 => lo ρ S1 fun l S2 => hi ρ S2 fun h S3 => slcD x l h S3 Q
def callS (n : Nat) (sp : Spec) (ds : List D) (S : Sto) (Q : Q1) : Prop := ds.length = n ∧ ∃ Q0 : Q1, sp ds S Q0 ∧ ∀ d S', Q0 d S' → Q d S'
def wCall (n : Nat) (sp : Spec) (a : WA) : W := fun ρ S Q => a ρ S fun ds S1 => callS n sp ds S1 Q
abbrev CalD := List D → Sto → Q1 → Prop
def wBlt (o : CalD) (a : WA) : W := fun ρ S Q => a ρ S fun ds S1 => o ds S1 Q
abbrev MetD := D → List D → Sto → Q1 → Prop
def wMet (ty : D → Sto → Prop) (o : MetD) (r : W) (a : WA) : W := fun ρ S Q => r ρ S fun x S1 => ty x S1 ∧ a ρ S1 fun ds S2 => o x ds S2 Q
def wBits (a : W) : W := fun ρ S Q => a ρ S fun x S1 => isInt x fun i => Q (.int (Builtin.Int.intBits i : Nat)) S1
def wTst (w : W) : WT := fun ρ S Q => w ρ S fun d S1 => truD d S1 fun b => Q b S1
def wTsB (w : W) : WT := fun ρ S Q => w ρ S fun d S1 => isBl d fun b => Q b S1
def wNotB (t : WT) : WT := fun ρ S Q => t ρ S fun b S1 => Q (!b) S1
def wAndB (t u : WT) : WT := fun ρ S Q => t ρ S fun b S1 => if b = true then u ρ S1 Q else Q false S1
def wOrB (t u : WT) : WT := fun ρ S Q => t ρ S fun b S1 => if b = true then Q true S1 else u ρ S1 Q

theorem isInt_iff {d : D} {Q : Int → Prop} : isInt d Q ↔ ∃ i, d = .int i ∧ Q i := by
  cases d <;> first
    | exact ⟨fun h => ⟨_, rfl, h⟩, fun ⟨_, e, q⟩ => by cases e; exact q⟩
    | exact ⟨fun h => h.elim, fun ⟨_, e, _⟩ => nomatch e⟩
theorem isBl_iff {d : D} {Q : Bool → Prop} : isBl d Q ↔ ∃ i, d = .bl i ∧ Q i := by
  cases d <;> first
    | exact ⟨fun h => ⟨_, rfl, h⟩, fun ⟨_, e, q⟩ => by cases e; exact q⟩
    | exact ⟨fun h => h.elim, fun ⟨_, e, _⟩ => nomatch e⟩

section
variable {X : Cx} {a b c : Expr} {wa wb wc : W} {pos : Pos}
/-- one part, then what follows: the shape of most rules -/
theorem tE_k {K : PySem.W.Frag} {w : W} {σ : L2.St} {H : Hp} {ι : List Addr} {S : Sto} {ρ : Rho} {G : Q1} {Q : VK} (m : MonoW w) (E : RepE K H ι σ ρ) (R : RepS K H ι S) (h : w ρ S G)
    (k : ∀ d S' v H' ι', Tr H ι H' ι' → RepS K H' ι' S' → RepV K H' ι' d v → RepE K H' ι' σ ρ → G d S' → Q v H') : tE K w σ H Q :=
  ⟨ρ, ι, S, E, R, m _ _ _ _ (fun d S' g v H' ι' T R' r => k d S' v H' ι' T R' r (E.tr R T) g) h⟩
theorem tT_k {K : PySem.W.Frag} {w : WT} {σ : L2.St} {H : Hp} {ι : List Addr} {S : Sto} {ρ : Rho} {G : Bool → Sto → Prop} {Q : Bool → Hp → Prop} (m : MonoT w) (E : RepE K H ι σ ρ) (R : RepS K H ι S) (h : w ρ S G)
    (k : ∀ d S' H' ι', Tr H ι H' ι' → RepS K H' ι' S' → RepE K H' ι' σ ρ → G d S' → Q d H') : tT K w σ H Q :=
  ⟨ρ, ι, S, E, R, m _ _ _ _ (fun d S' g H' ι' T R' => k d S' H' ι' T R' (E.tr R T) g) h⟩
theorem tA_k {K : PySem.W.Frag} {w : WA} {σ : L2.St} {H : Hp} {ι : List Addr} {S : Sto} {ρ : Rho} {G : List D → Sto → Prop} {Q : List V → Hp → Prop} (m : MonoA w) (E : RepE K H ι σ ρ) (R : RepS K H ι S) (h : w ρ S G)
    (k : ∀ ds S' vs H' ι', Tr H ι H' ι' → RepS K H' ι' S' → RepVs K H' ι' ds vs → RepE K H' ι' σ ρ → G ds S' → Q vs H') : tA K w σ H Q :=
  ⟨ρ, ι, S, E, R, m _ _ _ _ (fun d S' g v H' ι' T R' r => k d S' v H' ι' T R' r (E.tr R T) g) h⟩

theorem pw_var {i : Nat} {x : Str} (hN : X.N[i]? = some x) (hv : Vis X.env.scope x) (hd : (x == ("__debug__" : Str)) = false) (hcd : (x == ("__classdict__" : Str)) = false) : PEw X (.Name x pos) (wVar i) where
  mono := fun ρ S Q Q' h q => by
    obtain ⟨d, e, q⟩ := gv_iff.mp q
    exact gv_iff.mpr ⟨d, e, h _ _ q⟩
  pe := PE.weak (pe_var hN hv hd hcd) fun σ H Q ⟨ρ, ι, S, E, R, q⟩ => by
    obtain ⟨d, e, q⟩ := gv_iff.mp q
    obtain ⟨v, e1, r⟩ := E.at_ i d e
    exact ⟨v, e1, q v H ι (Tr.refl _ _) R r⟩
theorem pw_cst {e : Expr} {d : D} {v : V} (h : PE X e (tC v)) (r : ∀ H ι, RepV X.K H ι d v) : PEw X e (wCst d) where
  mono := fun ρ S Q Q' h q => h _ _ q
  pe := PE.weak h fun σ H Q ⟨ρ, ι, S, E, R, q⟩ => q v H ι (Tr.refl _ _) R (r H ι)
theorem wOp_mono {o : OpD} (ho : ∀ x y S (Q Q' : Q1), (∀ d S', Q d S' → Q' d S') → o x y S Q → o x y S Q') (ma : MonoW wa) (mb : MonoW wb) : MonoW (wOp o wa wb) := fun ρ S Q Q' h q =>
  ma _ _ _ _ (fun x S1 q1 => mb _ _ _ _ (fun y S2 q2 => ho _ _ _ _ _ h q2) q1) q
theorem wOp_down {K : PySem.W.Frag} {o : OpD} {r : R2} (ma : MonoW wa) (mb : MonoW wb) (hr : ∀ x y S Q vx vy H ι QV, RepS K H ι S → RepV K H ι x vx → RepV K H ι y vy → o x y S Q → Ok1 K H ι Q QV → r vx vy H QV) :
    ∀ σ H Q, tE K (wOp o wa wb) σ H Q → tOp r (tE K wa) (tE K wb) σ H Q := fun σ H Q ⟨ρ, ι, S, E, R, q⟩ =>
  tE_k ma E R q fun x S1 vx H1 ι1 T1 R1 rx E1 q1 => tE_k mb E1 R1 q1 fun y S2 vy H2 ι2 T2 R2 ry E2 q2 =>
    hr x y S2 _ vx vy H2 ι2 Q R2 (RepV.tr R1 T2 _ _ rx) ry q2 fun d S3 q3 v H3 ι3 T3 R3 rv => q3 v H3 ι3 ((T1.trans T2).trans T3) R3 rv
theorem pw_bin {op : Operator} (ha : PEw X a wa) (hb : PEw X b wb) : PEw X (.BinOp a op b pos) (wOp (opD op) wa wb) where
  mono := wOp_mono (opD_S (X := X) op).mono ha.mono hb.mono
  pe := by
    obtain ⟨r, hr, h⟩ := (opD_S (X := X) op).rd
    exact PE.weak (pe_op hr ha.pe hb.pe) (wOp_down ha.mono hb.mono h)
theorem pw_cmp {op : CmpOp} (hu : X.A.units + 64 < cLine) (ha : PEw X a wa) (hb : PEw X b wb) (hm : behindInMarks op b = false) : PEw X (.Compare a [op] [b] pos) (wOp (cmpD op) wa wb) where
  mono := wOp_mono (cmpD_S hu op).mono ha.mono hb.mono
  pe := by
    obtain ⟨r, hr, h⟩ := (cmpD_S (X := X) hu op).rd
    exact PE.weak (pe_cmpR hr ha.pe hb.pe hm) (wOp_down ha.mono hb.mono h)
theorem wTsB_mono (m : MonoW wa) : MonoT (wTsB wa) := fun ρ S Q Q' h q => m _ _ _ _ (fun d S1 q1 => by
  obtain ⟨k, e, q⟩ := isBl_iff.mp q1
  exact isBl_iff.mpr ⟨k, e, h _ _ q⟩) q
theorem wTst_mono (m : MonoW wa) : MonoT (wTst wa) := fun ρ S Q Q' h q => m _ _ _ _ (fun d S1 q1 => truD_mono (fun b => h b S1) q1) q
theorem tTest_down {K : PySem.W.Frag} {t : TE} {w : W} (h : ∀ σ H Q, tE K w σ H Q → t σ H Q) (m : MonoW w) : ∀ σ H Q, tT K (wTsB w) σ H Q → tTest t σ H Q := fun σ H Q ⟨ρ, ι, S, E, R, q⟩ =>
  h σ H _ (tE_k m E R q fun d S1 v H1 ι1 T1 R1 r E1 q1 => by
    obtain ⟨k, e, q2⟩ := isBl_iff.mp q1
    subst e
    cases r
    exact ⟨k, rfl, q2 H1 ι1 T1 R1⟩)
theorem pw_cmpT {op : CmpOp} (hu : X.A.units + 64 < cLine) (ha : PEw X a wa) (hb : PEw X b wb) (hm : behindInMarks op b = false) : PTw X (.Compare a [op] [b] pos) (wTsB (wOp (cmpD op) wa wb)) where
  mono := wTsB_mono (wOp_mono (cmpD_S hu op).mono ha.mono hb.mono)
  pe := by
    obtain ⟨r, hr, h⟩ := (cmpD_S (X := X) hu op).rd
    exact PT.weak (pt_cmpR hr ha.pe hb.pe hm) (tTest_down (wOp_down ha.mono hb.mono h) (wOp_mono (cmpD_S hu op).mono ha.mono hb.mono))
theorem wChain_mono {o p : OpD} (ho : ∀ x y S (Q Q' : Q1), (∀ d S', Q d S' → Q' d S') → o x y S Q → o x y S Q') (hp : ∀ x y S (Q Q' : Q1), (∀ d S', Q d S' → Q' d S') → p x y S Q → p x y S Q') (ma : MonoW wa) (mb : MonoW wb) (mc : MonoW wc) : MonoW (wChain o p wa wb wc) := fun ρ S Q Q' h q =>
  ma _ _ _ _ (fun x S1 q1 => mb _ _ _ _ (fun y S2 q2 => ho _ _ _ _ _ (fun z S3 q3 => by
    obtain ⟨k, e, q4⟩ := isBl_iff.mp q3
    refine isBl_iff.mpr ⟨k, e, ?_⟩
    cases k with
    | true => exact mc _ _ _ _ (fun u S4 q5 => hp _ _ _ _ _ h q5) q4
    | false => exact h _ _ q4) q2) q1) q
theorem wChain_down {K : PySem.W.Frag} {o p : OpD} {r r' : R2} (ma : MonoW wa) (mb : MonoW wb) (mc : MonoW wc) (mo : ∀ x y S (Q Q' : Q1), (∀ d S', Q d S' → Q' d S') → o x y S Q → o x y S Q')
    (hr : ∀ x y S Q vx vy H ι QV, RepS K H ι S → RepV K H ι x vx → RepV K H ι y vy → o x y S Q → Ok1 K H ι Q QV → r vx vy H QV)
    (hr' : ∀ x y S Q vx vy H ι QV, RepS K H ι S → RepV K H ι x vx → RepV K H ι y vy → p x y S Q → Ok1 K H ι Q QV → r' vx vy H QV) :
    ∀ σ H Q, tE K (wChain o p wa wb wc) σ H Q → tChain r r' (tE K wa) (tE K wb) (tE K wc) σ H Q := fun σ H Q ⟨ρ, ι, S, E, R, q⟩ =>
  tE_k ma E R q fun x S1 vx H1 ι1 T1 R1 rx E1 q1 => tE_k mb E1 R1 q1 fun y S2 vy H2 ι2 T2 R2 ry E2 q2 =>
    hr x y S2 _ vx vy H2 ι2 _ R2 (RepV.tr R1 T2 _ _ rx) ry q2 fun d S3 q3 v H3 ι3 T3 R3 rv => by
      obtain ⟨k, e, q4⟩ := isBl_iff.mp q3
      subst e
      cases rv
      refine ⟨k, rfl, ?_⟩
      cases k with
      | true => exact tE_k mc (E2.tr R2 T3) R3 q4 fun u S4 vu H4 ι4 T4 R4 ru E4 q5 => hr' y u S4 _ vy vu H4 ι4 Q R4 (RepV.tr R3 T4 _ _ (RepV.tr R2 T3 _ _ ry)) ru q5 fun d S5 q6 v H5 ι5 T5 R5 rv => q6 v H5 ι5 ((((T1.trans T2).trans T3).trans T4).trans T5) R5 rv
      | false => exact q4 (.bl false) H3 ι3 ((T1.trans T2).trans T3) R3 rfl
theorem pw_chain {op op' : CmpOp} (hu : X.A.units + 64 < cLine) (ha : PEw X a wa) (hb : PEw X b wb) (hc : PEw X c wc) (hm : lastMarks [op, op'] [b, c] = false) : PEw X (.Compare a [op, op'] [b, c] pos) (wChain (cmpD op) (cmpD op') wa wb wc) where
  mono := wChain_mono (cmpD_S hu op).mono (cmpD_S hu op').mono ha.mono hb.mono hc.mono
  pe := by
    obtain ⟨r, hr, h⟩ := (cmpD_S (X := X) hu op).rd
    obtain ⟨r', hr', h'⟩ := (cmpD_S (X := X) hu op').rd
    exact PE.weak (pe_chain hr hr' ha.pe hb.pe hc.pe hm) (wChain_down ha.mono hb.mono hc.mono (cmpD_S hu op).mono h h')
theorem pw_chainT {op op' : CmpOp} (hu : X.A.units + 64 < cLine) (ha : PEw X a wa) (hb : PEw X b wb) (hc : PEw X c wc) (hm : lastMarks [op, op'] [b, c] = false) : PTw X (.Compare a [op, op'] [b, c] pos) (wTsB (wChain (cmpD op) (cmpD op') wa wb wc)) where
  mono := wTsB_mono (wChain_mono (cmpD_S hu op).mono (cmpD_S hu op').mono ha.mono hb.mono hc.mono)
  pe := by
    obtain ⟨r, hr, h⟩ := (cmpD_S (X := X) hu op).rd
    obtain ⟨r', hr', h'⟩ := (cmpD_S (X := X) hu op').rd
    exact PT.weak (pt_chain hr hr' ha.pe hb.pe hc.pe hm) (tTest_down (wChain_down ha.mono hb.mono hc.mono (cmpD_S hu op).mono h h') (wChain_mono (cmpD_S hu op).mono (cmpD_S hu op').mono ha.mono hb.mono hc.mono))
theorem pw_truth (ha : PEw X a wa) (he : ∀ whole, isTrue a X.env whole = (do let v ← whole; standAt a.pos; holding [v] (truthy v))) : PTw X a (wTst wa) where
  mono := wTst_mono ha.mono
  pe := PT.weak (pt_truth ha.pe he) fun σ H Q ⟨ρ, ι, S, E, R, q⟩ => tE_k ha.mono E R q fun d S1 v H1 ι1 T1 R1 r E1 q1 => by
    obtain ⟨k, h1, h2⟩ := truD_V R1 r q1
    exact ⟨k, h1, h2 H1 ι1 T1 R1⟩
theorem pw_neg (ha : PEw X a wa) : PEw X (.UnaryOp .USub a pos) (wNeg wa) where
  mono := fun ρ S Q Q' h q => ha.mono _ _ _ _ (fun x S1 q1 => by
    obtain ⟨i, e, q⟩ := isInt_iff.mp q1
    exact isInt_iff.mpr ⟨i, e, h _ _ q⟩) q
  pe := PE.weak (pe_un un_neg ha.pe) fun σ H Q ⟨ρ, ι, S, E, R, q⟩ => tE_k ha.mono E R q fun d S1 v H1 ι1 T1 R1 r E1 q1 => by
    obtain ⟨i, e, q⟩ := isInt_iff.mp q1
    subst e
    cases r
    exact ⟨i, rfl, q (.int (-i)) H1 ι1 T1 R1 rfl⟩
theorem pw_notV (ha : PEw X a wa) : PEw X (.UnaryOp .Not a pos) (wNotV wa) where
  mono := fun ρ S Q Q' h q => ha.mono _ _ _ _ (fun x S1 q1 => truD_mono (fun b => h _ _) q1) q
  pe := PE.weak (pe_notT ha.pe) fun σ H Q ⟨ρ, ι, S, E, R, q⟩ => tE_k ha.mono E R q fun d S1 v H1 ι1 T1 R1 r E1 q1 => by
    obtain ⟨k, h1, h2⟩ := truD_V R1 r q1
    exact ⟨k, h1, h2 (.bl (!k)) H1 ι1 T1 R1 rfl⟩
theorem pw_one {op : BoolOp} (ha : PEw X a wa) : PEw X (.BoolOp op [a] pos) wa := ⟨ha.mono, pe_one ha.pe⟩
theorem pw_andV {rest : List Expr} (ha : PEw X a wa) (hb : PEw X (.BoolOp .And (b :: rest) pos) wb) : PEw X (.BoolOp .And (a :: b :: rest) pos) (wAndV wa wb) where
  mono := fun ρ S Q Q' h q => ha.mono _ _ _ _ (fun x S1 q1 => truD_mono (fun k q => by
    cases k with
    | true => exact hb.mono _ _ _ _ h q
    | false => exact h _ _ q) q1) q
  pe := PE.weak (pe_andT ha.pe hb.pe) fun σ H Q ⟨ρ, ι, S, E, R, q⟩ => tE_k ha.mono E R q fun d S1 v H1 ι1 T1 R1 r E1 q1 => by
    obtain ⟨k, h1, h2⟩ := truD_V R1 r q1
    refine ⟨k, h1, ?_⟩
    cases k with
    | true => exact tE_k hb.mono E1 R1 h2 fun d S2 v H2 ι2 T2 R2 r E2 q2 => q2 v H2 ι2 (T1.trans T2) R2 r
    | false => exact h2 v H1 ι1 T1 R1 r
theorem pw_orV {rest : List Expr} (ha : PEw X a wa) (hb : PEw X (.BoolOp .Or (b :: rest) pos) wb) : PEw X (.BoolOp .Or (a :: b :: rest) pos) (wOrV wa wb) where
  mono := fun ρ S Q Q' h q => ha.mono _ _ _ _ (fun x S1 q1 => truD_mono (fun k q => by
    cases k with
    | true => exact h _ _ q
    | false => exact hb.mono _ _ _ _ h q) q1) q
  pe := PE.weak (pe_orT ha.pe hb.pe) fun σ H Q ⟨ρ, ι, S, E, R, q⟩ => tE_k ha.mono E R q fun d S1 v H1 ι1 T1 R1 r E1 q1 => by
    obtain ⟨k, h1, h2⟩ := truD_V R1 r q1
    refine ⟨k, h1, ?_⟩
    cases k with
    | true => exact h2 v H1 ι1 T1 R1 r
    | false => exact tE_k hb.mono E1 R1 h2 fun d S2 v H2 ι2 T2 R2 r E2 q2 => q2 v H2 ι2 (T1.trans T2) R2 r
theorem pw_if {wt : WT} (hc : PTw X c wt) (ha : PEw X a wa) (hb : PEw X b wb) : PEw X (.IfExp c a b pos) (wIf wt wa wb) where
  mono := fun ρ S Q Q' h q => hc.mono _ _ _ _ (fun k S1 q1 => by
    cases k with
    | true => exact ha.mono _ _ _ _ h q1
    | false => exact hb.mono _ _ _ _ h q1) q
  pe := PE.weak (pe_ifExp hc.pe ha.pe hb.pe) fun σ H Q ⟨ρ, ι, S, E, R, q⟩ => tT_k hc.mono E R q fun k S1 H1 ι1 T1 R1 E1 q1 => by
    cases k with
    | true => exact tE_k ha.mono E1 R1 q1 fun d S2 v H2 ι2 T2 R2 r E2 q2 => q2 v H2 ι2 (T1.trans T2) R2 r
    | false => exact tE_k hb.mono E1 R1 q1 fun d S2 v H2 ι2 T2 R2 r E2 q2 => q2 v H2 ι2 (T1.trans T2) R2 r
theorem pw_notT {t : WT} (h : PTw X a t) : PTw X (.UnaryOp .Not a pos) (wNotB t) where
  mono := fun ρ S Q Q' g q => h.mono _ _ _ _ (fun k S1 q1 => g _ _ q1) q
  pe := PT.weak (pt_not h.pe) fun σ H Q ⟨ρ, ι, S, E, R, q⟩ => tT_k h.mono E R q fun k S1 H1 ι1 T1 R1 E1 q1 => q1 H1 ι1 T1 R1
theorem pw_and1T {t : WT} (h : PTw X a t) : PWw X (.BoolOp .And [a] pos) t := ⟨h.mono, pw_and1 h.pe⟩
theorem pw_or1T {t : WT} (h : PTw X a t) : PWw X (.BoolOp .Or [a] pos) t := ⟨h.mono, pw_or1 h.pe⟩
theorem pw_andT {t u : WT} {rest : List Expr} (h : PTw X a t) (g : PWw X (.BoolOp .And (b :: rest) pos) u) : PWw X (.BoolOp .And (a :: b :: rest) pos) (wAndB t u) where
  mono := fun ρ S Q Q' w q => h.mono _ _ _ _ (fun k S1 q1 => by
    cases k with
    | true => exact g.mono _ _ _ _ w q1
    | false => exact w _ _ q1) q
  pe := PW.weak (pw_and h.pe g.pe) fun σ H Q ⟨ρ, ι, S, E, R, q⟩ => tT_k h.mono E R q fun k S1 H1 ι1 T1 R1 E1 q1 => by
    cases k with
    | true => exact tT_k g.mono E1 R1 q1 fun d S2 H2 ι2 T2 R2 E2 q2 => q2 H2 ι2 (T1.trans T2) R2
    | false => exact q1 H1 ι1 T1 R1
theorem pw_orT {t u : WT} {rest : List Expr} (h : PTw X a t) (g : PWw X (.BoolOp .Or (b :: rest) pos) u) : PWw X (.BoolOp .Or (a :: b :: rest) pos) (wOrB t u) where
  mono := fun ρ S Q Q' w q => h.mono _ _ _ _ (fun k S1 q1 => by
    cases k with
    | true => exact w _ _ q1
    | false => exact g.mono _ _ _ _ w q1) q
  pe := PW.weak (pw_or h.pe g.pe) fun σ H Q ⟨ρ, ι, S, E, R, q⟩ => tT_k h.mono E R q fun k S1 H1 ι1 T1 R1 E1 q1 => by
    cases k with
    | true => exact q1 H1 ι1 T1 R1
    | false => exact tT_k g.mono E1 R1 q1 fun d S2 H2 ι2 T2 R2 E2 q2 => q2 H2 ι2 (T1.trans T2) R2
theorem pw_nil : PAw X [] wNil where
  mono := fun ρ S Q Q' h q => h _ _ q
  pe := PA.weak pa_nil fun σ H Q ⟨ρ, ι, S, E, R, q⟩ => q [] H ι (Tr.refl _ _) R rfl
theorem pw_cons {es : List Expr} {wr : WA} (ha : PEw X a wa) (hr : PAw X es wr) (hs : starEach (a :: es) X.env = (false, eval a X.env) :: starEach es X.env) : PAw X (a :: es) (wCons wa wr) where
  mono := fun ρ S Q Q' h q => ha.mono _ _ _ _ (fun x S1 q1 => hr.mono _ _ _ _ (fun xs S2 q2 => h _ _ q2) q1) q
  pe := PA.weak (pa_cons ha.pe hr.pe hs) fun σ H Q ⟨ρ, ι, S, E, R, q⟩ => tE_k ha.mono E R q fun d S1 v H1 ι1 T1 R1 r E1 q1 => tA_k hr.mono E1 R1 q1 fun ds S2 vs H2 ι2 T2 R2 rs E2 q2 =>
    q2 (v :: vs) H2 ι2 (T1.trans T2) R2 ⟨v, vs, rfl, RepV.tr R1 T2 _ _ r, rs⟩
theorem pw_tup {es : List Expr} {wr : WA} {k : Nat} (hr : PAw X es wr) : PEw X (.Tuple es k pos) (wTup wr) where
  mono := fun ρ S Q Q' h q => hr.mono _ _ _ _ (fun xs S1 q1 => ⟨q1.1, h _ _ q1.2⟩) q
  pe := PE.weak (pe_tup hr.pe) fun σ H Q ⟨ρ, ι, S, E, R, q⟩ => tA_k hr.mono E R q fun ds S1 vs H1 ι1 T1 R1 rs E1 q1 => by
    refine ⟨by rw [← rs.length]; exact q1.1, fun p hp => q1.2 _ _ _ (T1.trans (Tr.new R1 hp)) (RepS.new R1 hp) ⟨p, vs, rfl, .inl (.inl upd_same), RepVs.tr R1 (Tr.new R1 hp) _ _ rs⟩⟩
theorem pw_lst {es : List Expr} {wr : WA} (hr : PAw X es wr) : PEw X (.List es pos) (wLst wr) where
  mono := fun ρ S Q Q' h q => hr.mono _ _ _ _ (fun xs S1 q1 => ⟨q1.1, h _ _ q1.2⟩) q
  pe := PE.weak (pe_lst hr.pe) fun σ H Q ⟨ρ, ι, S, E, R, q⟩ => tA_k hr.mono E R q fun ds S1 vs H1 ι1 T1 R1 rs E1 q1 => by
    refine ⟨by rw [← rs.length]; exact q1.1, fun p hp => q1.2 _ _ _ (T1.trans (Tr.alloc R1 hp)) (RepS.alloc R1 hp rs) (RepV.new R1)⟩
theorem pw_idx (ha : PEw X a wa) (hb : PEw X b wb) (hs : PlainIx b) : PEw X (.Subscript a b pos) (wOp idxD wa wb) where
  mono := wOp_mono idxD_mono ha.mono hb.mono
  pe := PE.weak (pe_ix ix_seq ha.pe hb.pe hs) (wOp_down ha.mono hb.mono idxD_V)
def tO (K : PySem.W.Frag) (w : WO) : TO := fun σ H Q => ∃ ρ ι S, RepE K H ι σ ρ ∧ RepS K H ι S ∧ w ρ S fun o S' => ∀ H' ι', Tr H ι H' ι' → RepS K H' ι' S' → Q o H'
structure POw (X : Cx) (e : Option Expr) (w : WO) : Prop where
  mono : ∀ ρ S (Q Q' : Option Int → Sto → Prop), (∀ d S', Q d S' → Q' d S') → w ρ S Q → w ρ S Q'
  po : PO X e (tO X.K w)
theorem PO.weak {e : Option Expr} {t t' : TO} (h : PO X e t) (w : ∀ σ H Q, t' σ H Q → t σ H Q) : PO X e t' := by
  obtain ⟨h⟩ := h
  constructor
  intros
  first
    | (apply h <;> first | assumption | (apply w; assumption))
theorem tO_k {K : PySem.W.Frag} {w : WO} {σ : L2.St} {H : Hp} {ι : List Addr} {S : Sto} {ρ : Rho} {G : Option Int → Sto → Prop} {Q : Option Int → Hp → Prop} (m : ∀ ρ S (Q Q' : Option Int → Sto → Prop), (∀ d S', Q d S' → Q' d S') → w ρ S Q → w ρ S Q') (E : RepE K H ι σ ρ) (R : RepS K H ι S) (h : w ρ S G)
    (k : ∀ d S' H' ι', Tr H ι H' ι' → RepS K H' ι' S' → RepE K H' ι' σ ρ → G d S' → Q d H') : tO K w σ H Q :=
  ⟨ρ, ι, S, E, R, m _ _ _ _ (fun d S' g H' ι' T R' => k d S' H' ι' T R' (E.tr R T) g) h⟩
theorem pw_oNone : POw X none wNoP where
  mono := fun ρ S Q Q' h q => h _ _ q
  po := PO.weak po_none fun σ H Q ⟨ρ, ι, S, E, R, q⟩ => q H ι (Tr.refl _ _) R
theorem pw_oSome (ha : PEw X a wa) : POw X (some a) (wPart wa) where
  mono := fun ρ S Q Q' h q => ha.mono _ _ _ _ (fun x S1 q1 => by
    obtain ⟨i, e, q⟩ := isInt_iff.mp q1
    exact isInt_iff.mpr ⟨i, e, h _ _ q⟩) q
  po := PO.weak (po_some ha.pe) fun σ H Q ⟨ρ, ι, S, E, R, q⟩ => tE_k ha.mono E R q fun d S1 v H1 ι1 T1 R1 r E1 q1 => by
    obtain ⟨i, e, q⟩ := isInt_iff.mp q1
    subst e
    cases r
    exact ⟨i, rfl, q H1 ι1 T1 R1⟩
theorem pw_slc {lo hi : Option Expr} {wl wh : WO} {p2 : Pos} (ha : PEw X a wa) (hl : POw X lo wl) (hh : POw X hi wh) : PEw X (.Subscript a (.Slice lo hi none p2) pos) (wSlc wa wl wh) where
  mono := fun ρ S Q Q' h q => ha.mono _ _ _ _ (fun x S1 q1 => hl.mono _ _ _ _ (fun l S2 q2 => hh.mono _ _ _ _ (fun u S3 q3 => slcD_mono h q3) q2) q1) q
  pe := PE.weak (pe_slice slc_r ha.pe hl.po hh.po) fun σ H Q ⟨ρ, ι, S, E, R, q⟩ => tE_k ha.mono E R q fun d S1 v H1 ι1 T1 R1 r E1 q1 =>
    tO_k hl.mono E1 R1 q1 fun l S2 H2 ι2 T2 R2 E2 q2 => tO_k hh.mono E2 R2 q2 fun u S3 H3 ι3 T3 R3 E3 q3 =>
      slcD_V R3 (RepV.tr R2 T3 _ _ (RepV.tr R1 T2 _ _ r)) q3 fun d S4 q4 v H4 ι4 T4 R4 rv => q4 v H4 ι4 (((T1.trans T2).trans T3).trans T4) R4 rv
theorem pw_bits {apos : Pos} (ha : PEw X a wa) (hbase : attributeBase a "bit_length" X.env (eval a X.env) = eval a X.env) (hline : (apos.endLine == pos.line) = true) : PEw X (.Call (.Attribute a "bit_length" apos) [] [] pos) (wBits wa) where
  mono := fun ρ S Q Q' h q => ha.mono _ _ _ _ (fun x S1 q1 => by
    obtain ⟨i, e, q⟩ := isInt_iff.mp q1
    exact isInt_iff.mpr ⟨i, e, h _ _ q⟩) q
  pe := PE.weak (pe_bits ha.pe hbase hline) fun σ H Q ⟨ρ, ι, S, E, R, q⟩ => tE_k ha.mono E R q fun d S1 v H1 ι1 T1 R1 r E1 q1 => by
    obtain ⟨i, e, q⟩ := isInt_iff.mp q1
    subst e
    cases r
    exact ⟨i, rfl, q (.int _) H1 ι1 T1 R1 rfl⟩
/-- the promise of a def, over the machine's heap -/
def spOf (K : PySem.W.Frag) (n : Nat) (sp : Spec) : Sp := fun vs H Q _ => ∃ ι S ds, RepS K H ι S ∧ RepVs K H ι ds vs ∧ callS n sp ds S fun d S' => ∀ v H' ι', Tr H ι H' ι' → RepS K H' ι' S' → RepV K H' ι' d v → Q v H'
theorem callS_mono {n : Nat} {sp : Spec} {ds : List D} {S : Sto} {Q Q' : Q1} (h : ∀ d S', Q d S' → Q' d S') (q : callS n sp ds S Q) : callS n sp ds S Q' :=
  let ⟨e, Q0, q1, q2⟩ := q
  ⟨e, Q0, q1, fun d S' z => h _ _ (q2 d S' z)⟩
theorem pw_call {x : Str} {es : List Expr} {wr : WA} {f : Addr} {fd : FuncData} {ps : List Str} {n k : Nat} {sp : Spec} {p : Pos} (F : FnOk X.prog X.w X.K X.mg X.base CX0 k f fd ps (spOf X.K n sp)) (hr : Room k X.A) (hg : Gl X x) (hm : X.mg x = some (.ref f))
    (hk : PySem.W.keepIn X.K (.ref f) = true) (hb : Binds X.K fd ps []) (ha : PAw X (a :: es) wr) (hdb : (x == ("__debug__" : Str)) = false) (he : starEach (a :: es) X.env = (false, eval a X.env) :: starEach es X.env) (hpl : (backTo pos (starEach es X.env)).any (·.1) = false) :
    PEw X (.Call (.Name x p) (a :: es) [] pos) (wCall n sp wr) where
  mono := fun ρ S Q Q' h q => ha.mono _ _ _ _ (fun ds S1 q1 => callS_mono h q1) q
  pe := PE.weak (pe_call F hr hg hm hk hb .nil pass0 ha.pe hdb he hpl) fun σ H Q ⟨ρ, ι, S, E, R, q⟩ => tA_k ha.mono E R q fun ds S1 vs H1 ι1 T1 R1 rs E1 q1 => by
    rw [List.append_nil]
    exact ⟨ι1, S1, ds, R1, rs, callS_mono (fun d S2 q2 v H2 ι2 T2 R2 r => q2 v H2 ι2 (T1.trans T2) R2 r) q1⟩
structure CalS (X : Cx) (f : Value) (o : CalD) : Prop where
  mono : ∀ ds S (Q Q' : Q1), (∀ d S', Q d S' → Q' d S') → o ds S Q → o ds S Q'
  rd : ∃ r, CallR X f r ∧ ∀ ds S Q vs H ι QV, RepS X.K H ι S → RepVs X.K H ι ds vs → o ds S Q → Ok1 X.K H ι Q QV → r vs H QV
theorem wBlt_mono {o : CalD} {wr : WA} (mo : ∀ ds S (Q Q' : Q1), (∀ d S', Q d S' → Q' d S') → o ds S Q → o ds S Q') (m : MonoA wr) : MonoW (wBlt o wr) := fun ρ S Q Q' h q => m _ _ _ _ (fun ds S1 q1 => mo _ _ _ _ h q1) q
theorem pw_bltB {x : Str} {es : List Expr} {wr : WA} {p : Pos} {id : String} {o : CalD} (C : CalS X (.builtin id) o) (hg : Gl X x) (hm : X.mg x = none) (hv : bootBuiltins x = some (.builtin id)) (ha : PAw X (a :: es) wr) (hn : x ≠ "__name__") (hdb : (x == ("__debug__" : Str)) = false)
    (he : starEach (a :: es) X.env = (false, eval a X.env) :: starEach es X.env) (hpl : (backTo pos (starEach es X.env)).any (·.1) = false) : PEw X (.Call (.Name x p) (a :: es) [] pos) (wBlt o wr) where
  mono := wBlt_mono C.mono ha.mono
  pe := by
    obtain ⟨r, hc, h⟩ := C.rd
    exact PE.weak (pe_callB hc hg hm hv ha.pe hn hdb he hpl) fun σ H Q ⟨ρ, ι, S, E, R, q⟩ => tA_k ha.mono E R q fun ds S1 vs H1 ι1 T1 R1 rs E1 q1 =>
      h ds S1 _ vs H1 ι1 Q R1 rs q1 fun d S2 q2 v H2 ι2 T2 R2 r => q2 v H2 ι2 (T1.trans T2) R2 r
theorem pw_bltT {x : Str} {es : List Expr} {wr : WA} {p : Pos} {id : String} {o : CalD} (C : CalS X (.type id) o) (hg : Gl X x) (hm : X.mg x = none) (hv : bootBuiltins x = some (.type id)) (ha : PAw X (a :: es) wr) (hn : x ≠ "__name__") (hdb : (x == ("__debug__" : Str)) = false)
    (he : starEach (a :: es) X.env = (false, eval a X.env) :: starEach es X.env) (hpl : (backTo pos (starEach es X.env)).any (·.1) = false) : PEw X (.Call (.Name x p) (a :: es) [] pos) (wBlt o wr) where
  mono := wBlt_mono C.mono ha.mono
  pe := by
    obtain ⟨r, hc, h⟩ := C.rd
    exact PE.weak (pe_callTy hc hg hm hv ha.pe hn hdb he hpl) fun σ H Q ⟨ρ, ι, S, E, R, q⟩ => tA_k ha.mono E R q fun ds S1 vs H1 ι1 T1 R1 rs E1 q1 =>
      h ds S1 _ vs H1 ι1 Q R1 rs q1 fun d S2 q2 v H2 ι2 T2 R2 r => q2 v H2 ι2 (T1.trans T2) R2 r
structure MetS (X : Cx) (T id : String) (ty : D → Sto → Prop) (o : MetD) : Prop where
  mono : ∀ x ds S (Q Q' : Q1), (∀ d S', Q d S' → Q' d S') → o x ds S Q → o x ds S Q'
  ty_ : ∀ x S v H ι, RepS X.K H ι S → RepV X.K H ι x v → ty x S → tyV X.K T v H
  rd : ∃ r, MtR X id r ∧ ∀ x ds S Q v vs H ι QV, RepS X.K H ι S → RepV X.K H ι x v → RepVs X.K H ι ds vs → o x ds S Q → Ok1 X.K H ι Q QV → r v vs H QV
theorem wMet_mono {ty : D → Sto → Prop} {o : MetD} {wr : WA} (mo : ∀ x ds S (Q Q' : Q1), (∀ d S', Q d S' → Q' d S') → o x ds S Q → o x ds S Q') (m : MonoW wa) (mr : MonoA wr) : MonoW (wMet ty o wa wr) := fun ρ S Q Q' h q =>
  m _ _ _ _ (fun x S1 q1 => ⟨q1.1, mr _ _ _ _ (fun ds S2 q2 => mo _ _ _ _ _ h q2) q1.2⟩) q
theorem pw_met {T id : String} {name : Str} {ty : D → Sto → Prop} {o : MetD} {es : List Expr} {wr : WA} {apos : Pos} (M : MetS X T id ty o) (pa : PlainAttrs T) (slot : Slot T name id) (hty : typeOf (.builtin id) = pure (.type "method_descriptor")) (hc : PEw X c wc) (ha : PAw X (a :: es) wr)
    (hbase : attributeBase c name X.env (eval c X.env) = eval c X.env)
    (hfew : ((backTo pos (starEach (a :: es) X.env)).all (fun x => !x.1) && (backToKw pos (keywordEach [] X.env)).all (fun x => x.1.isSome)
      && decide ((a :: es).length + ([] : List Keyword).length + (if ([] : List Keyword).isEmpty then 0 else 1) < 30)) = true)
    (hline : (apos.endLine == pos.line) = true) (hs : starEach (a :: es) X.env = (false, eval a X.env) :: starEach es X.env) (hplain : (backTo pos (starEach es X.env)).any (·.1) = false) :
    PEw X (.Call (.Attribute c name apos) (a :: es) [] pos) (wMet ty o wc wr) where
  mono := wMet_mono M.mono hc.mono ha.mono
  pe := by
    obtain ⟨r, hm, h⟩ := M.rd
    exact PE.weak (pe_bm pa slot hty hm hc.pe ha.pe hbase hfew hline hs hplain) fun σ H Q ⟨ρ, ι, S, E, R, q⟩ => tE_k hc.mono E R q fun d S1 v H1 ι1 T1 R1 rx E1 q1 =>
      ⟨M.ty_ d S1 v H1 ι1 R1 rx q1.1, tA_k ha.mono E1 R1 q1.2 fun ds S2 vs H2 ι2 T2 R2 rs E2 q2 =>
        h d ds S2 _ v vs H2 ι2 Q R2 (RepV.tr R1 T2 _ _ rx) rs q2 fun d S3 q3 v H3 ι3 T3 R3 r => q3 v H3 ι3 ((T1.trans T2).trans T3) R3 r⟩
theorem pw_met0 {T id : String} {name : Str} {ty : D → Sto → Prop} {o : MetD} {apos : Pos} (M : MetS X T id ty o) (pa : PlainAttrs T) (slot : Slot T name id) (hty : typeOf (.builtin id) = pure (.type "method_descriptor")) (hc : PEw X c wc)
    (hbase : attributeBase c name X.env (eval c X.env) = eval c X.env) (hline : (apos.endLine == pos.line) = true) : PEw X (.Call (.Attribute c name apos) [] [] pos) (wMet ty o wc wNil) where
  mono := wMet_mono M.mono hc.mono fun ρ S Q Q' h q => h _ _ q
  pe := by
    obtain ⟨r, hm, h⟩ := M.rd
    exact PE.weak (pe_bm0 pa slot hty hm hc.pe hbase hline) fun σ H Q ⟨ρ, ι, S, E, R, q⟩ => tE_k hc.mono E R q fun d S1 v H1 ι1 T1 R1 rx E1 q1 =>
      ⟨M.ty_ d S1 v H1 ι1 R1 rx q1.1, h d [] S1 _ v [] H1 ι1 Q R1 rx rfl q1.2 fun d S3 q3 v H3 ι3 T3 R3 r => q3 v H3 ι3 (T1.trans T3) R3 r⟩
end
end WW


set_option Elab.async false
set_option linter.all false
set_option maxRecDepth 100000
set_option maxHeartbeats 4000000
set_option autoImplicit false
namespace WW
open PySem PySem.Spec PyProof.Rows L2

/-! ### targets -/
inductive Pat where
  | nm (i : Nat)
  | tp (is : List Nat)
def bindL : List Nat → List D → Rho → Option Rho
  | [], [], ρ => some ρ
  | i :: is, d :: ds, ρ => bindL is ds (putR ρ i (some d))
  | _, _, _ => none
def bindP : Pat → D → Rho → Option Rho
  | .nm i, d, ρ => some (putR ρ i (some d))
  | .tp is, .tup ds, ρ => bindL is ds ρ
  | .tp _, _, _ => none
def gNames : List Nat → TGs
  | [] => gNil
  | i :: is => gCons (gName i) (gNames is)
def gP (K : PySem.W.Frag) : Pat → TG
  | .nm i => gName i
  | .tp is => gTup K is.length (gNames is)
def Pat.vs : Pat → List Nat
  | .nm i => [i]
  | .tp is => is
section
variable {K : PySem.W.Frag} {H : Hp} {ι : List Addr} {S : Sto}
/-- σ' differs from σ at these slots alone -/
def Only (vs : List Nat) (σ σ' : L2.St) : Prop := σ'.length = σ.length ∧ ∀ i, i ∉ vs → σ'[i]? = σ[i]?
theorem Only.refl (vs : List Nat) (σ : L2.St) : Only vs σ σ := ⟨rfl, fun _ _ => rfl⟩
theorem Only.set {vs : List Nat} {σ : L2.St} {i : Nat} {x : Option V} (h : i ∈ vs) : Only vs σ (σ.set i x) :=
  ⟨List.length_set, fun j hj => by rw [List.getElem?_set_ne (fun e => hj (by subst e; exact h))]⟩
theorem Only.trans {vs : List Nat} {a b c : L2.St} (h : Only vs a b) (g : Only vs b c) : Only vs a c := ⟨g.1.trans h.1, fun i hi => (g.2 i hi).trans (h.2 i hi)⟩
theorem Only.mono {vs ws : List Nat} {a b : L2.St} (h : Only vs a b) (g : ∀ i ∈ vs, i ∈ ws) : Only ws a b := ⟨h.1, fun i hi => h.2 i fun q => hi (g i q)⟩
theorem wipe_at {σ : L2.St} : ∀ {vs : List Nat} {i : Nat}, (L2.wipe σ vs)[i]? = if i ∈ vs ∧ i < σ.length then some none else σ[i]?
  | [], i => by simp [L2.wipe]
  | v :: vs, i => by
    unfold L2.wipe
    by_cases hi : v = i
    · subst hi
      by_cases hl : v < σ.length
      · rw [List.getElem?_set_self (by rw [wipe_length]; exact hl), if_pos ⟨List.mem_cons_self, hl⟩]
      · rw [List.getElem?_eq_none (by rw [List.length_set, wipe_length]; omega), if_neg (fun q => hl q.2), List.getElem?_eq_none (by omega)]
    · rw [List.getElem?_set_ne hi, wipe_at]
      have : i ∈ v :: vs ↔ i ∈ vs := ⟨fun q => (List.mem_cons.mp q).elim (fun e => absurd e.symm hi) id, List.mem_cons_of_mem _⟩
      simp only [this]
theorem wipe_only {vs : List Nat} {σ σ' : L2.St} (h : Only vs σ σ') : L2.wipe σ' vs = L2.wipe σ vs := by
  apply List.ext_getElem?
  intro i
  rw [wipe_at, wipe_at, h.1]
  split
  · rfl
  · rename_i hn
    by_cases hi : i ∈ vs
    · have hl : ¬ i < σ.length := fun z => hn ⟨hi, z⟩
      rw [List.getElem?_eq_none (by rw [h.1]; omega), List.getElem?_eq_none (by omega)]
    · exact h.2 i hi
theorem wipe_wipe {vs : List Nat} {σ : L2.St} : L2.wipe (L2.wipe σ vs) vs = L2.wipe σ vs := wipe_only ⟨wipe_length σ vs, fun i hi => by
  rw [wipe_at, if_neg fun q => hi q.1]⟩
theorem bindL_S : ∀ {is : List Nat} {ds : List D} {vs : List V} {ρ ρ' : Rho} {σ : L2.St} {Q : L2.St → Hp → Prop}, bindL is ds ρ = some ρ' → RepE K H ι σ ρ → RepVs K H ι ds vs →
    (∀ σ', RepE K H ι σ' ρ' → Only is σ σ' → Q σ' H) → gNames is vs σ H Q
  | [], [], _, _, _, _, _, e, E, r, k => by
    cases e
    cases r
    exact ⟨rfl, k _ E (Only.refl _ _)⟩
  | [], _ :: _, _, _, _, _, _, e, _, _, _ => nomatch e
  | _ :: _, [], _, _, _, _, _, e, _, _, _ => nomatch e
  | i :: is, d :: ds, _, ρ, ρ', σ, Q, e, E, r, k => by
    obtain ⟨v, t, rfl, r1, r2⟩ := r
    refine ⟨v, t, rfl, ?_⟩
    exact bindL_S (is := is) (ds := ds) e (E.put r1) r2 fun σ' E' o => k σ' E' ((Only.set List.mem_cons_self).trans (o.mono fun j hj => List.mem_cons_of_mem _ hj))
theorem bindL_len : ∀ {is : List Nat} {ds : List D} {ρ ρ' : Rho}, bindL is ds ρ = some ρ' → ds.length = is.length
  | [], [], _, _, _ => rfl
  | [], _ :: _, _, _, e => nomatch e
  | _ :: _, [], _, _, e => nomatch e
  | i :: is, d :: ds, ρ, ρ', e => by
    rw [List.length_cons, List.length_cons, bindL_len (is := is) (ds := ds) e]
theorem bindP_S {p : Pat} {d : D} {v : V} {ρ ρ' : Rho} {σ : L2.St} {Q : L2.St → Hp → Prop} (e : bindP p d ρ = some ρ') (E : RepE K H ι σ ρ) (r : RepV K H ι d v)
    (k : ∀ σ', RepE K H ι σ' ρ' → Only p.vs σ σ' → Q σ' H) : gP K p v σ H Q := by
  cases p with
  | nm i =>
    cases e
    exact k _ (E.put r) (Only.set List.mem_cons_self)
  | tp is =>
    cases d with
    | tup ds =>
      obtain ⟨a, xs, rfl, hx, rs⟩ := r
      exact ⟨a, xs, rfl, hx, by rw [← rs.length]; exact bindL_len e, bindL_S e E rs k⟩
    | non => exact nomatch e
    | bl _ => exact nomatch e
    | int _ => exact nomatch e
    | str _ => exact nomatch e
    | fro _ => exact nomatch e
    | ref _ => exact nomatch e
end

/-! ### what is walked: the items, and what must stand at every turn -/
structure Src where
  items : List D
  stab : Sto → Prop
abbrev WI := Rho → Sto → (Src → Sto → Prop) → Prop
def MonoI (w : WI) : Prop := ∀ ρ S (Q Q' : Src → Sto → Prop), (∀ d S', Q d S' → Q' d S') → w ρ S Q → w ρ S Q'
/-- the machine's walk J, from H0 on, yields the items -/
def ItOk (K : PySem.W.Frag) (H0 : Hp) (ι0 : List Addr) (J : It) (s : Src) : Prop := ∀ i H ι S, Tr H0 ι0 H ι → RepS K H ι S → s.stab S →
  (∀ d, s.items[i]? = some d → J.go i H ∧ ∀ x H', J.yld i H x H' → Tr H ι H' ι ∧ RepS K H' ι S ∧ RepV K H' ι d x) ∧ (s.items.length ≤ i → J.stop i H)
def tI (K : PySem.W.Frag) (w : WI) : TI := fun σ H R => ∃ ρ ι S, RepE K H ι σ ρ ∧ RepS K H ι S ∧ w ρ S fun s S' => ∀ J H' ι', Tr H ι H' ι' → RepS K H' ι' S' → ItOk K H' ι' J s → R J H'
structure PIw (X : Cx) (tg e : Expr) (w : WI) : Prop where
  mono : MonoI w
  pi : PI X tg e (tI X.K w)
theorem PI.weak {X : Cx} {tg e : Expr} {t t' : TI} (h : PI X tg e t) (w : ∀ σ H Q, t' σ H Q → t σ H Q) : PI X tg e t' := ⟨fun pins s σ H Q I q => h.run pins s σ H Q I (w σ H Q q)⟩
def srcD : D → Sto → (Src → Prop) → Prop
  | .tup ds, _, Q => Q ⟨ds, fun _ => True⟩
  | .fro ds, _, Q => Q ⟨ds, fun _ => True⟩
  | .ref n, S, Q => ∃ ds, S[n]? = some (.lst ds) ∧ Q ⟨ds, fun S' => S'[n]? = some (.lst ds)⟩
  | .str z, _, Q => Q ⟨z.cps.toList.map fun c => .str ⟨#[c]⟩, fun _ => True⟩
  | _, _, _ => False
theorem srcD_mono {d : D} {S : Sto} {Q Q' : Src → Prop} (h : ∀ s, Q s → Q' s) (q : srcD d S Q) : srcD d S Q' := by
  cases d <;> first | exact q.elim | exact h _ q | exact let ⟨ds, a, b⟩ := q; ⟨ds, a, h _ b⟩
def wSeqI (w : W) : WI := fun ρ S Q => w ρ S fun d S1 => srcD d S1 fun s => Q s S1
def rngD : List D → (Src → Prop) → Prop
  | [.int j], Q => (-(2 ^ 62) ≤ j ∧ j < 2 ^ 62) ∧ Q ⟨(List.range j.toNat).map fun k => .int ((0 : Int) + (k : Nat)), fun _ => True⟩
  | [.int i, .int j], Q => (-(2 ^ 62) ≤ i ∧ i < 2 ^ 62 ∧ -(2 ^ 62) ≤ j ∧ j < 2 ^ 62) ∧ Q ⟨(List.range (j - i).toNat).map fun k => .int (i + (k : Nat)), fun _ => True⟩
  | [.int i, .int j, .int c], Q => ∃ n, RgC i j c n ∧ Q ⟨(List.range n).map fun k => .int (i + (k : Nat) * c), fun _ => True⟩
  | _, _ => False
def wRng (a : WA) : WI := fun ρ S Q => a ρ S fun ds S1 => rngD ds fun s => Q s S1
section
variable {X : Cx} {tg e : Expr} {w : W} {K : PySem.W.Frag} {H : Hp} {ι : List Addr} {S : Sto}
theorem itok_list {n : Nat} {a : Addr} {ds : List D} (h : ι[n]? = some a) : ItOk K H ι (Itl K a) ⟨ds, fun S' => S'[n]? = some (.lst ds)⟩ := fun i H1 ι1 S1 T R st => by
  obtain ⟨xs, e1, r⟩ := R.ob n a _ (T.get h) st
  have hq : SqL K H1 a xs := .inl (.inl e1)
  refine ⟨fun d hd => ?_, fun hl => ⟨xs, hq, by rw [← r.length]; exact hl⟩⟩
  obtain ⟨x, hx, rx⟩ := r.get hd
  refine ⟨⟨xs, x, hq, hx⟩, fun y H' hy => ?_⟩
  obtain ⟨rfl, f⟩ := hy
  have := f xs hq
  rw [hx] at this
  cases this
  exact ⟨Tr.refl _ _, R, rx⟩
theorem itok_fro {a : Addr} {xs : List V} {ds : List D} (h : SqK K H a xs) (r : RepVs K H ι ds xs) (R0 : RepS K H ι S) : ItOk K H ι (Itl K a) ⟨ds, fun _ => True⟩ := fun i H1 ι1 S1 T R st => by
  have hq : SqL K H1 a xs := (SqK.tr R0 T h).sq
  have r1 := RepVs.tr R0 T _ _ r
  refine ⟨fun d hd => ?_, fun hl => ⟨xs, hq, by rw [← r.length]; exact hl⟩⟩
  obtain ⟨x, hx, rx⟩ := r1.get hd
  refine ⟨⟨xs, x, hq, hx⟩, fun y H' hy => ?_⟩
  obtain ⟨rfl, f⟩ := hy
  have := f xs hq
  rw [hx] at this
  cases this
  exact ⟨Tr.refl _ _, R, rx⟩
theorem itok_tup {a : Addr} {xs : List V} {ds : List D} (h : SqT K H a xs) (r : RepVs K H ι ds xs) (R0 : RepS K H ι S) : ItOk K H ι (Itt K a) ⟨ds, fun _ => True⟩ := fun i H1 ι1 S1 T R st => by
  have hq : SqT K H1 a xs := SqT.tr R0 T h
  have r1 := RepVs.tr R0 T _ _ r
  refine ⟨fun d hd => ?_, fun hl => ⟨xs, hq, by rw [← r.length]; exact hl⟩⟩
  obtain ⟨x, hx, rx⟩ := r1.get hd
  refine ⟨⟨xs, x, hq, hx⟩, fun y H' hy => ?_⟩
  obtain ⟨rfl, f⟩ := hy
  have := f xs hq
  rw [hx] at this
  cases this
  exact ⟨Tr.refl _ _, R, rx⟩
theorem itok_str {z : Str} : ItOk K H ι (Its z) ⟨z.cps.toList.map fun c => .str ⟨#[c]⟩, fun _ => True⟩ := fun i H1 ι1 S1 T R st => by
  refine ⟨fun d hd => ?_, fun hl => ?_⟩
  · rw [List.getElem?_map] at hd
    cases q : z.cps.toList[i]? with
    | none => rw [q] at hd; cases hd
    | some c =>
      rw [q] at hd
      cases hd
      have hc : z.cps[i]? = some c := by rw [← q]; simp
      refine ⟨(Array.getElem?_eq_some_iff.mp hc).1, fun y H' hy => ?_⟩
      obtain ⟨rfl, c', e1, rfl⟩ := hy
      rw [hc] at e1
      cases e1
      exact ⟨Tr.refl _ _, R, rfl⟩
  · show z.cps.size ≤ i
    simpa using hl
theorem itok_rng {lo : Int} {n : Nat} : ItOk K H ι (Itr lo n) ⟨(List.range n).map fun k => .int (lo + (k : Nat)), fun _ => True⟩ := fun i H1 ι1 S1 T R st => by
  refine ⟨fun d hd => ?_, fun hl => by show n ≤ i; simpa using hl⟩
  rw [List.getElem?_map] at hd
  cases q : (List.range n)[i]? with
  | none => rw [q] at hd; cases hd
  | some k =>
    obtain ⟨h1, h2⟩ := List.getElem?_eq_some_iff.mp q
    rw [List.getElem_range] at h2
    subst h2
    rw [q] at hd
    cases hd
    refine ⟨by show i < n; simpa using h1, fun y H' hy => ?_⟩
    obtain ⟨rfl, rfl⟩ := hy
    exact ⟨Tr.refl _ _, R, rfl⟩
theorem itok_rngC {lo c : Int} {n : Nat} : ItOk K H ι (Itc lo c n) ⟨(List.range n).map fun k => .int (lo + (k : Nat) * c), fun _ => True⟩ := fun i H1 ι1 S1 T R st => by
  refine ⟨fun d hd => ?_, fun hl => by show n ≤ i; simpa using hl⟩
  rw [List.getElem?_map] at hd
  cases q : (List.range n)[i]? with
  | none => rw [q] at hd; cases hd
  | some k =>
    obtain ⟨h1, h2⟩ := List.getElem?_eq_some_iff.mp q
    rw [List.getElem_range] at h2
    subst h2
    rw [q] at hd
    cases hd
    refine ⟨by show i < n; simpa using h1, fun y H' hy => ?_⟩
    obtain ⟨rfl, rfl⟩ := hy
    exact ⟨Tr.refl _ _, R, rfl⟩
theorem pi_or {t u : TI} (h : PI X tg e t) (g : PI X tg e u) : PI X tg e (fun σ H R => t σ H R ∨ u σ H R) :=
  ⟨fun pins s σ H Q I q => q.elim (h.run pins s σ H Q I) (g.run pins s σ H Q I)⟩
theorem pw_seqI (h : PEw X e w) : PIw X tg e (wSeqI w) where
  mono := fun ρ S Q Q' g q => h.mono _ _ _ _ (fun d S1 q1 => srcD_mono (fun s => g s S1) q1) q
  pi := by
    have base : ∀ σ H R, tI X.K (wSeqI w) σ H R → ∃ ρ ι S, RepE X.K H ι σ ρ ∧ RepS X.K H ι S ∧ wSeqI w ρ S (fun s S' => ∀ J H' ι', Tr H ι H' ι' → RepS X.K H' ι' S' → ItOk X.K H' ι' J s → R J H') := fun _ _ _ q => q
    refine ⟨fun pins s σ H Q I q => ?_⟩
    obtain ⟨ρ, ι, S, E, R, q⟩ := q
    -- the value first, then its kind
    refine thn (h.pe.run pins s σ H (fun x H1 => ∃ R : Unit, (iList X.K (fun _ H R => R x H) σ H1 Q ∨ iTup X.K (fun _ H R => R x H) σ H1 Q ∨ iStr (fun _ H R => R x H) σ H1 Q)) I
      (tE_k h.mono E R q fun d S1 v H1 ι1 T1 R1 r E1 q1 => ⟨(), ?_⟩)) fun v s1 ⟨x, H1, I1, r1, _, q1⟩ => ?_
    · cases d <;> try exact q1.elim
      · cases r
        exact .inr (.inr ⟨_, rfl, q1 _ H1 ι1 T1 R1 itok_str⟩)
      · obtain ⟨a, xs, rfl, hx, rr⟩ := r
        exact .inr (.inl ⟨a, rfl, ⟨xs, hx⟩, q1 _ H1 ι1 T1 R1 (itok_tup hx rr R1)⟩)
      · obtain ⟨a, xs, rfl, hx, rr⟩ := r
        exact .inl ⟨a, rfl, ⟨xs, hx.sq⟩, q1 _ H1 ι1 T1 R1 (itok_fro hx rr R1)⟩
      · obtain ⟨ds, e, q1⟩ := q1
        obtain ⟨a, xs, rfl, hi, hx, rr⟩ := R1.list r e
        exact .inl ⟨a, rfl, ⟨xs, .inl (.inl hx)⟩, q1 _ H1 ι1 T1 R1 (itok_list hi)⟩
    · rcases q1 with q1 | q1 | q1
      · obtain ⟨a, e1, ⟨xs, hq⟩, q⟩ := q1
        subst e1
        cases r1
        obtain ⟨its, rv, p, hz⟩ := I1.list hq
        refine wpAny_pyIter_list p.isList ?_
        refine ⟨s1.heap.objs.size, [s1.heap.objs.size], _, _, H1, rfl, I1.kept (t' := s1.toks) fun b o e => Heap.get?_push_of_some _ e, turn_list a _, ⟨_, Heap.get?_push_size _ rfl, rfl, rfl⟩, fun b hb => ?_, q⟩
        have e : b = s1.heap.objs.size := by simpa using hb
        subst e
        exact I1.fpOk (Nat.le_refl _) (I1.hok.fresh (Nat.le_refl _))
      · obtain ⟨a, e1, ⟨xs, hq⟩, q⟩ := q1
        subst e1
        cases r1
        obtain ⟨its, rv, p, hz⟩ := I1.tuple hq
        refine wpAny_pyIter_tuple (show s1.heap.IsTuple a its.toArray from p) ?_
        refine ⟨s1.heap.objs.size, [s1.heap.objs.size], _, _, H1, rfl, I1.kept (t' := s1.toks) fun b o e => Heap.get?_push_of_some _ e, turn_tuple a _, ⟨_, Heap.get?_push_size _ rfl, rfl, rfl⟩, fun b hb => ?_, q⟩
        have e : b = s1.heap.objs.size := by simpa using hb
        subst e
        exact I1.fpOk (Nat.le_refl _) (I1.hok.fresh (Nat.le_refl _))
      · obtain ⟨x, ex, q⟩ := q1
        subst ex
        obtain ⟨t, rfl⟩ := r1
        cases ha : x.cps.all (· < 128)
        · exact wpAny_pyIter_wide ha (pi_one (tk := s1.toks) I1 _ (turn_str _ x t "str_iterator" (.inr rfl)) ⟨_, Heap.get?_push_size _ rfl, rfl, rfl⟩ q)
        · exact wpAny_pyIter_ascii ha (pi_one (tk := s1.toks) I1 _ (turn_str _ x t "str_ascii_iterator" (.inl rfl)) ⟨_, Heap.get?_push_size _ rfl, rfl, rfl⟩ q)
end
end WW


set_option Elab.async false
set_option linter.all false
set_option maxRecDepth 100000
set_option maxHeartbeats 4000000
set_option autoImplicit false
namespace WW
open PySem PySem.Spec PyProof.Rows L2

section
variable {X : Cx} {tg : Expr} {p pos : Pos} {a b c : Expr} {wr : WA}
theorem rngD_iff {ds : List D} {Q : Src → Prop} (q : rngD ds Q) : (∃ j, ds = [.int j] ∧ (-(2 ^ 62) ≤ j ∧ j < 2 ^ 62) ∧ Q ⟨(List.range j.toNat).map fun k => .int ((0 : Int) + (k : Nat)), fun _ => True⟩) ∨
    (∃ i j, ds = [.int i, .int j] ∧ (-(2 ^ 62) ≤ i ∧ i < 2 ^ 62 ∧ -(2 ^ 62) ≤ j ∧ j < 2 ^ 62) ∧ Q ⟨(List.range (j - i).toNat).map fun k => .int (i + (k : Nat)), fun _ => True⟩) ∨
    (∃ i j c n, ds = [.int i, .int j, .int c] ∧ RgC i j c n ∧ Q ⟨(List.range n).map fun k => .int (i + (k : Nat) * c), fun _ => True⟩) := by
  unfold rngD at q
  split at q
  · exact .inl ⟨_, rfl, q⟩
  · exact .inr (.inl ⟨_, _, rfl, q⟩)
  · obtain ⟨n, q⟩ := q
    exact .inr (.inr ⟨_, _, _, n, rfl, q⟩)
  · exact q.elim
theorem rngD_mono {ds : List D} {Q Q' : Src → Prop} (h : ∀ s, Q s → Q' s) (q : rngD ds Q) : rngD ds Q' := by
  rcases rngD_iff q with ⟨j, rfl, c, q⟩ | ⟨i, j, rfl, c, q⟩ | ⟨i, j, c, n, rfl, g, q⟩
  · exact ⟨c, h _ q⟩
  · exact ⟨c, h _ q⟩
  · exact ⟨n, g, h _ q⟩
theorem wRng_mono (m : MonoA wr) : MonoI (wRng wr) := fun ρ S Q Q' h q => m _ _ _ _ (fun ds S1 q1 => rngD_mono (fun s => h s S1) q1) q
theorem repVs1 {K : PySem.W.Frag} {H : Hp} {ι : List Addr} {i : Int} {vs : List V} (h : RepVs K H ι [.int i] vs) : vs = [.int i] := by
  obtain ⟨x, r, rfl, h1, h2⟩ := h
  cases h1
  cases h2
  rfl
theorem repVs2 {K : PySem.W.Frag} {H : Hp} {ι : List Addr} {i j : Int} {vs : List V} (h : RepVs K H ι [.int i, .int j] vs) : vs = [.int i, .int j] := by
  obtain ⟨x, r, rfl, h1, h2⟩ := h
  cases h1
  rw [repVs1 h2]
theorem repVs3 {K : PySem.W.Frag} {H : Hp} {ι : List Addr} {i j k : Int} {vs : List V} (h : RepVs K H ι [.int i, .int j, .int k] vs) : vs = [.int i, .int j, .int k] := by
  obtain ⟨x, r, rfl, h1, h2⟩ := h
  cases h1
  rw [repVs2 h2]
theorem pw_rng1 (hg : Gl X "range") (hm : X.mg "range" = none) (ha : PAw X [a] wr) (hw : ∀ ρ S Q, wr ρ S Q → wr ρ S fun ds S' => ds.length = 1 ∧ Q ds S') (hs : starEach [a] X.env = [(false, eval a X.env)]) : PIw X tg (.Call (.Name "range" p) [a] [] pos) (wRng wr) where
  mono := wRng_mono ha.mono
  pi := PI.weak (pi_range1 hg hm ha.pe hs) fun σ H Q ⟨ρ, ι, S, E, R, q⟩ => tA_k ha.mono E R (hw _ _ _ q) fun ds S1 vs H1 ι1 T1 R1 rs E1 ⟨hl, q1⟩ => by
    rcases rngD_iff q1 with ⟨j, rfl, h, q⟩ | ⟨i, j, rfl, h, q⟩ | ⟨i, j, c, n, rfl, h, q⟩
    · rw [repVs1 rs]
      exact ⟨j, rfl, h.1, h.2, q _ H1 ι1 T1 R1 itok_rng⟩
    · simp at hl
    · simp at hl
theorem pw_rng2 (hg : Gl X "range") (hm : X.mg "range" = none) (ha : PAw X [a, b] wr) (hw : ∀ ρ S Q, wr ρ S Q → wr ρ S fun ds S' => ds.length = 2 ∧ Q ds S') (hs : starEach [a, b] X.env = [(false, eval a X.env), (false, eval b X.env)]) (hs2 : starEach [b] X.env = [(false, eval b X.env)]) : PIw X tg (.Call (.Name "range" p) [a, b] [] pos) (wRng wr) where
  mono := wRng_mono ha.mono
  pi := PI.weak (pi_range2 hg hm ha.pe hs hs2) fun σ H Q ⟨ρ, ι, S, E, R, q⟩ => tA_k ha.mono E R (hw _ _ _ q) fun ds S1 vs H1 ι1 T1 R1 rs E1 ⟨hl, q1⟩ => by
    rcases rngD_iff q1 with ⟨j, rfl, h, q⟩ | ⟨i, j, rfl, h, q⟩ | ⟨i, j, c, n, rfl, h, q⟩
    · simp at hl
    · rw [repVs2 rs]
      exact ⟨i, j, rfl, h, q _ H1 ι1 T1 R1 itok_rng⟩
    · simp at hl
theorem pw_rng3 (hg : Gl X "range") (hm : X.mg "range" = none) (ha : PAw X [a, b, c] wr) (hw : ∀ ρ S Q, wr ρ S Q → wr ρ S fun ds S' => ds.length = 3 ∧ Q ds S') (hs : starEach [a, b, c] X.env = (false, eval a X.env) :: starEach [b, c] X.env) (hpl : (backTo pos (starEach [b, c] X.env)).any (·.1) = false) : PIw X tg (.Call (.Name "range" p) [a, b, c] [] pos) (wRng wr) where
  mono := wRng_mono ha.mono
  pi := PI.weak (pi_range3 hg hm ha.pe hs hpl) fun σ H Q ⟨ρ, ι, S, E, R, q⟩ => tA_k ha.mono E R (hw _ _ _ q) fun ds S1 vs H1 ι1 T1 R1 rs E1 ⟨hl, q1⟩ => by
    rcases rngD_iff q1 with ⟨j, rfl, h, q⟩ | ⟨i, j, rfl, h, q⟩ | ⟨i, j, c, n, rfl, h, q⟩
    · simp at hl
    · simp at hl
    · rw [repVs3 rs]
      exact ⟨i, j, c, n, rfl, h, q _ H1 ι1 T1 R1 itok_rngC⟩

/-! ### enumerate of a list -/
def enumD : Nat → List D → List D
  | _, [] => []
  | k, d :: r => .tup [.int (k : Nat), d] :: enumD (k + 1) r
theorem enumD_get : ∀ (ds : List D) (k i : Nat), (enumD k ds)[i]? = ds[i]?.map fun d => .tup [.int ((k + i : Nat) : Int), d]
  | [], k, i => by simp [enumD]
  | d :: r, k, 0 => by simp [enumD]
  | d :: r, k, i + 1 => by
    show (enumD (k + 1) r)[i]? = _
    rw [enumD_get r (k + 1) i, List.getElem?_cons_succ]
    have e : k + 1 + i = k + (i + 1) := by omega
    rw [e]
theorem enumD_len : ∀ (ds : List D) (k : Nat), (enumD k ds).length = ds.length
  | [], _ => rfl
  | d :: r, k => by
    show (enumD (k + 1) r).length + 1 = r.length + 1
    rw [enumD_len r]
def enumSrc : D → Sto → (Src → Prop) → Prop
  | .ref n, S, Q => ∃ ds, S[n]? = some (.lst ds) ∧ Q ⟨enumD 0 ds, fun S' => S'[n]? = some (.lst ds)⟩
  | .fro ds, _, Q => Q ⟨enumD 0 ds, fun _ => True⟩
  | _, _, _ => False
def enum1 : List D → Sto → (Src → Prop) → Prop
  | [d], S, Q => enumSrc d S Q
  | _, _, _ => False
def wEnum (a : WA) : WI := fun ρ S Q => a ρ S fun ds S1 => enum1 ds S1 fun s => Q s S1
theorem itok_enum {K : PySem.W.Frag} {H : Hp} {ι : List Addr} {a : Addr} {ds : List D} {st : Sto → Prop}
    (h : ∀ H1 ι1 S1, Tr H ι H1 ι1 → RepS K H1 ι1 S1 → st S1 → ∃ xs, SqL K H1 a xs ∧ RepVs K H1 ι1 ds xs) : ItOk K H ι (Ite K a) ⟨enumD 0 ds, st⟩ := fun i H1 ι1 S1 T R hs => by
  obtain ⟨xs, hq, r⟩ := h H1 ι1 S1 T R hs
  refine ⟨fun d hd => ?_, fun hl => ⟨xs, hq, by rw [← r.length, ← enumD_len ds 0]; exact hl⟩⟩
  rw [show (Src.mk (enumD 0 ds) st).items = enumD 0 ds from rfl, enumD_get] at hd
  cases q : ds[i]? with
  | none => rw [q] at hd; cases hd
  | some e =>
    rw [q] at hd
    cases hd
    obtain ⟨x, hx, rx⟩ := r.get q
    refine ⟨⟨xs, x, hq, hx⟩, fun y H' hy => ?_⟩
    obtain ⟨T', x', rfl, hT, rfl, f⟩ := hy
    have := f xs hq
    rw [hx] at this
    cases this
    refine ⟨Tr.new R hT, RepS.new R hT, T', _, rfl, .inl (.inl upd_same), _, _, rfl, ?_, _, _, rfl, RepV.tr R (Tr.new R hT) _ _ rx, rfl⟩
    show V.int (i : Nat) = V.int ((0 + i : Nat) : Int)
    rw [Nat.zero_add]
theorem enumSrc_mono {d : D} {S : Sto} {Q Q' : Src → Prop} (h : ∀ s, Q s → Q' s) (q : enumSrc d S Q) : enumSrc d S Q' := by
  cases d <;> first | exact q.elim | exact h _ q | exact let ⟨ds, a, b⟩ := q; ⟨ds, a, h _ b⟩
theorem pw_enum {elts : List Expr} {kk : Nat} {tpos : Pos} (hg : Gl X "enumerate") (hm : X.mg "enumerate" = none) (ha : PAw X [a] wr) (hs : starEach [a] X.env = [(false, eval a X.env)]) : PIw X (.Tuple elts kk tpos) (.Call (.Name "enumerate" p) [a] [] pos) (wEnum wr) where
  mono := fun ρ S Q Q' h q => ha.mono _ _ _ _ (fun ds S1 q1 => by
    match ds, q1 with
    | [d], q1 => exact enumSrc_mono (fun s => h s S1) q1) q
  pi := PI.weak (pi_enum hg hm ha.pe hs) fun σ H Q ⟨ρ, ι, S, E, R, q⟩ => tA_k ha.mono E R q fun ds S1 vs H1 ι1 T1 R1 rs E1 q1 => by
    match ds, q1 with
    | [d], q1 =>
      obtain ⟨v, r, rfl, rv, rr⟩ := rs
      cases rr
      cases d <;> try exact q1.elim
      · rename_i ds
        obtain ⟨a, xs, rfl, hx, rr⟩ := rv
        exact ⟨a, xs, rfl, hx.sq, q1 _ H1 ι1 T1 R1 (itok_enum fun H2 ι2 S2 T R2 _ => ⟨xs, (SqK.tr R1 T hx).sq, RepVs.tr R1 T _ _ rr⟩)⟩
      · rename_i n
        obtain ⟨ds, e, q1⟩ := q1
        obtain ⟨a, xs, rfl, hi, hx, rr⟩ := R1.list rv e
        refine ⟨a, xs, rfl, .inl (.inl hx), q1 _ H1 ι1 T1 R1 (itok_enum fun H2 ι2 S2 T R2 st => ?_)⟩
        obtain ⟨ys, e1, r1⟩ := R2.ob n a _ (T.get hi) st
        exact ⟨ys, .inl (.inl e1), r1⟩
end

/-! ### statements -/
def MonoS (w : WS) : Prop := ∀ ρ S (K K' : KK), (∀ ρ S, K.nx ρ S → K'.nx ρ S) → (∀ d S, K.rt d S → K'.rt d S) → (∀ ρ S, K.bk ρ S → K'.bk ρ S) → (∀ ρ S, K.ct ρ S → K'.ct ρ S) → w K ρ S → w K' ρ S
def EnS (K : PySem.W.Frag) (H : Hp) (ι : List Addr) (P : Rho → Sto → Prop) (D : L2.St → Hp → Prop) : Prop := ∀ ρ S σ H' ι', Tr H ι H' ι' → RepS K H' ι' S → RepE K H' ι' σ ρ → P ρ S → D σ H'
def EnR (K : PySem.W.Frag) (H : Hp) (ι : List Addr) (P : Q1) (D : VK) : Prop := ∀ d S v H' ι', Tr H ι H' ι' → RepS K H' ι' S → RepV K H' ι' d v → P d S → D v H'
structure Ed (K : PySem.W.Frag) (H : Hp) (ι : List Addr) (k : KK) (E : Ends) : Prop where
  nx : EnS K H ι k.nx E.nx
  rt : EnR K H ι k.rt E.rt
  bk : EnS K H ι k.bk E.bk
  ct : EnS K H ι k.ct E.ct
def tS (K : PySem.W.Frag) (w : WS) : TS := fun E σ H => ∃ k ρ ι S, RepE K H ι σ ρ ∧ RepS K H ι S ∧ Ed K H ι k E ∧ w k ρ S
structure PSw (X : Cx) (st : Stmt) (w : WS) : Prop where
  mono : MonoS w
  ps : PS X st (tS X.K w)
structure PBw (X : Cx) (sts : List Stmt) (w : WS) : Prop where
  mono : MonoS w
  ps : PSs X sts (tS X.K w)
theorem PS.weak {X : Cx} {st : Stmt} {t t' : TS} (h : PS X st t) (w : ∀ E σ H, t' E σ H → t E σ H) : PS X st t' := ⟨fun pins s σ H E I q => h.run pins s σ H E I (w E σ H q)⟩
theorem PSs.weak {X : Cx} {st : List Stmt} {t t' : TS} (h : PSs X st t) (w : ∀ E σ H, t' E σ H → t E σ H) : PSs X st t' := ⟨fun pins s σ H E I q => h.run pins s σ H E I (w E σ H q)⟩
section
variable {K : PySem.W.Frag} {H H' : Hp} {ι ι' : List Addr} {k : KK} {E : Ends}
theorem EnS.tr {P : Rho → Sto → Prop} {D : L2.St → Hp → Prop} (h : EnS K H ι P D) (T : Tr H ι H' ι') : EnS K H' ι' P D := fun ρ S σ H2 ι2 T2 R E p => h ρ S σ H2 ι2 (T.trans T2) R E p
theorem EnR.tr {P : Q1} {D : VK} (h : EnR K H ι P D) (T : Tr H ι H' ι') : EnR K H' ι' P D := fun ρ S σ H2 ι2 T2 R E p => h ρ S σ H2 ι2 (T.trans T2) R E p
theorem Ed.tr (h : Ed K H ι k E) (T : Tr H ι H' ι') : Ed K H' ι' k E := ⟨h.nx.tr T, h.rt.tr T, h.bk.tr T, h.ct.tr T⟩
end
def wAsg (i : Nat) (w : W) : WS := fun k ρ S => w ρ S fun d S1 => k.nx (putR ρ i (some d)) S1
def wAsgP (p : Pat) (w : W) : WS := fun k ρ S => w ρ S fun d S1 => gv (bindP p d ρ) fun ρ' => k.nx ρ' S1
def setD : D → D → D → Sto → (Sto → Prop) → Prop
  | .ref n, .int i, v, S, Q => ∃ ds, S[n]? = some (.lst ds) ∧ gv (ixN ds.length i) fun j => Q (S.set n (.lst (ds.set j v)))
  | _, _, _, _, _ => False
def wSet (o i v : W) : WS := fun k ρ S => v ρ S fun y S1 => o ρ S1 fun x S2 => i ρ S2 fun z S3 => setD x z y S3 fun S4 => k.nx ρ S4
def wDrop (w : W) : WS := fun k ρ S => w ρ S fun _ S1 => k.nx ρ S1
def wRet (w : W) : WS := fun k ρ S => w ρ S k.rt
def wRetN : WS := fun k _ S => k.rt .non S
def wBrk : WS := fun k ρ S => k.bk ρ S
def wCnt : WS := fun k ρ S => k.ct ρ S
def wPas : WS := fun k ρ S => k.nx ρ S
def wSq (a b : WS) : WS := fun k ρ S => a { k with nx := b k } ρ S
def wIfS (t : WT) (a b : WS) : WS := fun k ρ S => t ρ S fun c S1 => if c = true then a k ρ S1 else b k ρ S1
def wIt (t : WT) (b : WS) (k : KK) : Nat → Rho → Sto → Prop
  | 0, _, _ => False
  | m + 1, ρ, S => t ρ S fun c S1 => if c = true then b { k with nx := wIt t b k m, ct := wIt t b k m, bk := k.nx } ρ S1 else k.nx ρ S1
def wWhl (t : WT) (b : WS) : WS := fun k ρ S => ∃ m, wIt t b k m ρ S
def forGo (st : Sto → Prop) (p : Pat) (b : WS) (k : KK) : List D → Rho → Sto → Prop
  | [], ρ, S => st S ∧ k.nx ρ S
  | d :: r, ρ, S => st S ∧ gv (bindP p d ρ) fun ρ' => b { k with nx := forGo st p b k r, ct := forGo st p b k r, bk := k.nx } ρ' S
def wFor (wi : WI) (p : Pat) (b : WS) : WS := fun k ρ S => wi ρ S fun s S1 => forGo s.stab p b k s.items ρ S1
section
variable {X : Cx} {e c : Expr} {w : W} {pos : Pos} {u t : WS}
theorem pw_ret (h : PEw X e w) : PSw X (.Return (some e) pos) (wRet w) where
  mono := fun ρ S k k' h1 h2 h3 h4 q => h.mono _ _ _ _ (fun d S' z => h2 _ _ z) q
  ps := PS.weak (ps_ret h.pe) fun E σ H ⟨k, ρ, ι, S, Er, R, D, q⟩ => tE_k h.mono Er R q fun d S1 v H1 ι1 T1 R1 r E1 q1 => D.rt d S1 v H1 ι1 T1 R1 r q1
theorem pw_retN : PSw X (.Return none pos) wRetN where
  mono := fun ρ S k k' h1 h2 h3 h4 q => h2 _ _ q
  ps := PS.weak ps_retN fun E σ H ⟨k, ρ, ι, S, Er, R, D, q⟩ => D.rt .non S .non H ι (Tr.refl _ _) R rfl q
theorem pw_drop (h : PEw X e w) (hs : swapsWith e none pos.line X.env = pure false) : PSw X (.Expr e pos) (wDrop w) where
  mono := fun ρ S k k' h1 h2 h3 h4 q => h.mono _ _ _ _ (fun d S' z => h1 _ _ z) q
  ps := PS.weak (ps_expr h.pe hs) fun E σ H ⟨k, ρ, ι, S, Er, R, D, q⟩ => tE_k h.mono Er R q fun d S1 v H1 ι1 T1 R1 r E1 q1 => D.nx ρ S1 σ H1 ι1 T1 R1 E1 q1
theorem pw_brk : PSw X (.Break pos) wBrk where
  mono := fun ρ S k k' h1 h2 h3 h4 q => h3 _ _ q
  ps := PS.weak ps_break fun E σ H ⟨k, ρ, ι, S, Er, R, D, q⟩ => D.bk ρ S σ H ι (Tr.refl _ _) R Er q
theorem pw_cnt : PSw X (.Continue pos) wCnt where
  mono := fun ρ S k k' h1 h2 h3 h4 q => h4 _ _ q
  ps := PS.weak ps_continue fun E σ H ⟨k, ρ, ι, S, Er, R, D, q⟩ => D.ct ρ S σ H ι (Tr.refl _ _) R Er q
theorem pw_pas : PSw X (.Pass pos) wPas where
  mono := fun ρ S k k' h1 h2 h3 h4 q => h1 _ _ q
  ps := PS.weak ps_pass fun E σ H ⟨k, ρ, ι, S, Er, R, D, q⟩ => D.nx ρ S σ H ι (Tr.refl _ _) R Er q
theorem pw_sNil : PBw X [] wPas where
  mono := fun ρ S k k' h1 h2 h3 h4 q => h1 _ _ q
  ps := PSs.weak pss_nil fun E σ H ⟨k, ρ, ι, S, Er, R, D, q⟩ => D.nx ρ S σ H ι (Tr.refl _ _) R Er q
theorem pw_sOne {st : Stmt} (h : PSw X st u) : PBw X [st] u := ⟨h.mono, pss_one h.ps⟩
theorem pw_sCons {st : Stmt} {r : List Stmt} (h : PSw X st u) (g : PBw X r t) : PBw X (st :: r) (wSq u t) where
  mono := fun ρ S k k' h1 h2 h3 h4 q => h.mono ρ S { k with nx := t k } { k' with nx := t k' } (fun ρ S z => g.mono _ _ _ _ h1 h2 h3 h4 z) h2 h3 h4 q
  ps := PSs.weak (pss_cons h.ps g.ps) fun E σ H ⟨k, ρ, ι, S, Er, R, D, q⟩ =>
    ⟨{ k with nx := t k }, ρ, ι, S, Er, R, ⟨fun ρ1 S1 σ1 H1 ι1 T1 R1 E1 q1 => ⟨k, ρ1, ι1, S1, E1, R1, D.tr T1, q1⟩, D.rt, D.bk, D.ct⟩, q⟩
theorem pw_ifS {a b : List Stmt} {wt : WT} (hc : PTw X c wt) (ha : PBw X a u) (hb : PBw X b t) : PSw X (.If c a b pos) (wIfS wt u t) where
  mono := fun ρ S k k' h1 h2 h3 h4 q => hc.mono _ _ _ _ (fun d S' z => by
    cases d with
    | true => exact ha.mono _ _ _ _ h1 h2 h3 h4 z
    | false => exact hb.mono _ _ _ _ h1 h2 h3 h4 z) q
  ps := PS.weak (ps_if hc.pe ha.ps hb.ps) fun E σ H ⟨k, ρ, ι, S, Er, R, D, q⟩ => tT_k hc.mono Er R q fun d S1 H1 ι1 T1 R1 E1 q1 => by
    cases d with
    | true => exact ⟨k, ρ, ι1, S1, E1, R1, D.tr T1, q1⟩
    | false => exact ⟨k, ρ, ι1, S1, E1, R1, D.tr T1, q1⟩
theorem pw_asg {i : Nat} {x : Str} {pos' : Pos} (hN : X.N.Nodup) (hi : X.N[i]? = some x) (hx : Loc X.env.scope x) (h : PEw X e w) (hs : swapsWith e (some (.Name x pos')) pos.line X.env = pure false) (hf : X.fn x = true ∨ X.env.scope.names.lookup x = some .local) :
    PSw X (.Assign [.Name x pos'] e pos) (wAsg i w) where
  mono := fun ρ S k k' h1 h2 h3 h4 q => h.mono _ _ _ _ (fun d S' z => h1 _ _ z) q
  ps := PS.weak (ps_set hN hi hx h.pe hs hf) fun E σ H ⟨k, ρ, ι, S, Er, R, D, q⟩ => tE_k h.mono Er R q fun d S1 v H1 ι1 T1 R1 r E1 q1 => D.nx _ S1 _ H1 ι1 T1 R1 (E1.put r) q1
theorem wAsgP_mono {p : Pat} (h : MonoW w) : MonoS (wAsgP p w) := fun ρ S k k' h1 h2 h3 h4 q => h _ _ _ _ (fun d S' z => by
  obtain ⟨ρ', e, z⟩ := gv_iff.mp z
  exact gv_iff.mpr ⟨ρ', e, h1 _ _ z⟩) q
theorem pw_asgP {tg : Expr} {p : Pat} (hg : PG X tg (gP X.K p)) (h : PEw X e w) (hs : swapsWithSole [tg] e pos.line X.env = pure false) (hw : swappedStores [tg] e X.env = pure none)
    (h1 : (assignEach [tg] X.env).map (·.2) = [assign tg X.env]) : PSw X (.Assign [tg] e pos) (wAsgP p w) where
  mono := wAsgP_mono h.mono
  ps := PS.weak (ps_asg h.pe hg hs hw h1) fun E σ H ⟨k, ρ, ι, S, Er, R, D, q⟩ => tE_k h.mono Er R q fun d S1 v H1 ι1 T1 R1 r E1 q1 => by
    obtain ⟨ρ', e, q2⟩ := gv_iff.mp q1
    exact bindP_S e E1 r fun σ' E' _ => D.nx ρ' S1 σ' H1 ι1 T1 R1 E' q2
theorem pw_setS {o ix : Expr} {wo wi : W} {spos : Pos} (ho : PEw X o wo) (hi : PEw X ix wi) (h : PEw X e w)
    (ha : ∀ v, assign (.Subscript o ix spos) X.env v = (do
      let ov ← holding [v] (eval o X.env)
      let iv ← holding [v, ov] (eval ix X.env)
      standAt spos
      holding [v, ov, iv] (setItem ov iv v)
      release [v, ov, iv] []))
    (hs : swapsWithSole [.Subscript o ix spos] e pos.line X.env = pure false) (hw : swappedStores [.Subscript o ix spos] e X.env = pure none)
    (h1 : (assignEach [.Subscript o ix spos] X.env).map (·.2) = [assign (.Subscript o ix spos) X.env]) : PSw X (.Assign [.Subscript o ix spos] e pos) (wSet wo wi w) where
  mono := fun ρ S k k' h1 h2 h3 h4 q => h.mono _ _ _ _ (fun d S' z => ho.mono _ _ _ _ (fun x S2 z => hi.mono _ _ _ _ (fun y S3 z => by
    cases x <;> cases y <;> try exact z.elim
    obtain ⟨ds, e1, z⟩ := z
    obtain ⟨j, e2, z⟩ := gv_iff.mp z
    exact ⟨ds, e1, gv_iff.mpr ⟨j, e2, h1 _ _ z⟩⟩) z) z) q
  ps := PS.weak (ps_asg h.pe (pg_sub ho.pe hi.pe set_list ha) hs hw h1) fun E σ H ⟨k, ρ, ι, S, Er, R, D, q⟩ => tE_k h.mono Er R q fun d S1 v H1 ι1 T1 R1 r E1 q1 =>
    tE_k ho.mono E1 R1 q1 fun x S2 vx H2 ι2 T2 R2 rx E2 q2 => tE_k hi.mono E2 R2 q2 fun y S3 vy H3 ι3 T3 R3 ry E3 q3 => by
      cases x <;> cases y <;> try exact q3.elim
      cases ry
      rename_i n i
      obtain ⟨ds, e1, q4⟩ := q3
      obtain ⟨j, e2, q5⟩ := gv_iff.mp q4
      obtain ⟨a, xs, rfl, hi, hx, rr⟩ := R3.list (RepV.tr R2 T3 _ _ rx) e1
      have hn := RepVs.set j rr (RepV.tr R2 T3 _ _ (RepV.tr R1 T2 _ _ r))
      exact ⟨a, xs, i, j, rfl, rfl, hx, by rw [← rr.length]; exact e2, D.nx ρ _ σ _ ι3 (((T1.trans T2).trans T3).trans (Tr.write R3 hi)) (RepS.write R3 hi hn) (E3.tr R3 (Tr.write R3 hi)) q5⟩
theorem wIt_mono {wt : WT} (hc : MonoT wt) (hb : MonoS u) : ∀ (m m' : Nat) (k k' : KK) ρ S, m ≤ m' → (∀ ρ S, k.nx ρ S → k'.nx ρ S) → (∀ d S, k.rt d S → k'.rt d S) → wIt wt u k m ρ S → wIt wt u k' m' ρ S
  | 0, _, _, _, _, _, _, _, _, q => q.elim
  | m + 1, 0, _, _, _, _, h, _, _, _ => absurd h (by omega)
  | m + 1, m' + 1, k, k', ρ, S, h, h1, h2, q => hc _ _ _ _ (fun d S' z => by
    cases d with
    | true => exact hb _ _ { k with nx := wIt wt u k m, ct := wIt wt u k m, bk := k.nx } { k' with nx := wIt wt u k' m', ct := wIt wt u k' m', bk := k'.nx } (fun ρ S z => wIt_mono hc hb m m' k k' ρ S (by omega) h1 h2 z) h2 h1 (fun ρ S z => wIt_mono hc hb m m' k k' ρ S (by omega) h1 h2 z) z
    | false => exact h1 _ _ z) q
theorem pw_whl {body : List Stmt} {wt : WT} (hp : PassesOwn (model X.prog X.w) X.A X.env X.xe) (hc : PTw X c wt) (hb : PBw X body u) : PSw X (.While c body [] pos) (wWhl wt u) where
  mono := fun ρ S k k' h1 h2 h3 h4 ⟨m, q⟩ => ⟨m, wIt_mono hc.mono hb.mono m m k k' ρ S (Nat.le_refl _) h1 h2 q⟩
  ps := PS.weak (ps_while hp hc.pe hb.ps) fun E σ H ⟨k, ρ, ι, S, Er, R, D, m, q⟩ => by
    refine ⟨fun m σ' H' => ∃ ρ' ι' S', RepE X.K H' ι' σ' ρ' ∧ RepS X.K H' ι' S' ∧ Tr H ι H' ι' ∧ wIt wt u k m ρ' S', ⟨m, ρ, ι, S, Er, R, Tr.refl _ _, q⟩, fun m σ' H' ⟨ρ', ι', S', E', R', T', q'⟩ => ?_⟩
    cases m with
    | zero => exact q'.elim
    | succ m =>
      refine tT_k hc.mono E' R' q' fun d S1 H1 ι1 T1 R1 E1 q1 => ?_
      cases d with
      | false => exact D.nx ρ' S1 σ' H1 ι1 (T'.trans T1) R1 E1 q1
      | true =>
        show ∃ N : L2.St → Hp → Prop, _
        refine ⟨fun σ2 H2 => ∃ ρ2 ι2 S2, RepE X.K H2 ι2 σ2 ρ2 ∧ RepS X.K H2 ι2 S2 ∧ Tr H ι H2 ι2 ∧ wIt wt u k m ρ2 S2, fun σ2 H2 z => ⟨m, Nat.lt_succ_self m, z⟩, ?_⟩
        refine ⟨{ k with nx := wIt wt u k m, ct := wIt wt u k m, bk := k.nx }, ρ', ι1, S1, E1, R1, ⟨?_, ?_, ?_, ?_⟩, q1⟩
        · exact fun ρ2 S2 σ2 H2 ι2 T2 R2 E2 q2 => ⟨ρ2, ι2, S2, E2, R2, (T'.trans T1).trans T2, q2⟩
        · exact fun d2 S2 v2 H2 ι2 T2 R2 r2 q2 => D.rt d2 S2 v2 H2 ι2 ((T'.trans T1).trans T2) R2 r2 q2
        · exact fun ρ2 S2 σ2 H2 ι2 T2 R2 E2 q2 => D.nx ρ2 S2 σ2 H2 ι2 ((T'.trans T1).trans T2) R2 E2 q2
        · exact fun ρ2 S2 σ2 H2 ι2 T2 R2 E2 q2 => ⟨ρ2, ι2, S2, E2, R2, (T'.trans T1).trans T2, q2⟩
theorem forGo_mono {st : Sto → Prop} {p : Pat} (hb : MonoS u) : ∀ (ds : List D) (k k' : KK) ρ S, (∀ ρ S, k.nx ρ S → k'.nx ρ S) → (∀ d S, k.rt d S → k'.rt d S) → forGo st p u k ds ρ S → forGo st p u k' ds ρ S
  | [], _, _, _, _, h1, _, q => ⟨q.1, h1 _ _ q.2⟩
  | d :: r, k, k', ρ, S, h1, h2, ⟨q1, q2⟩ => by
    obtain ⟨ρ', e, q⟩ := gv_iff.mp q2
    exact ⟨q1, gv_iff.mpr ⟨ρ', e, hb _ _ { k with nx := forGo st p u k r, ct := forGo st p u k r, bk := k.nx } { k' with nx := forGo st p u k' r, ct := forGo st p u k' r, bk := k'.nx } (fun ρ S z => forGo_mono hb r k k' ρ S h1 h2 z) h2 h1 (fun ρ S z => forGo_mono hb r k k' ρ S h1 h2 z) q⟩⟩
theorem forGo_st {st : Sto → Prop} {p : Pat} {k : KK} {ds : List D} {ρ : Rho} {S : Sto} (q : forGo st p u k ds ρ S) : st S := by
  cases ds <;> exact q.1
theorem pw_for {tg iter : Expr} {body : List Stmt} {wi : WI} {p : Pat} (hp : PassesOwn (model X.prog X.w) X.A X.env X.xe) (hcalm : X.calm = true) (hi : PIw X tg iter wi) (hg : PG X tg (gP X.K p)) (hb : PBw X body u)
    (hs : ∀ x, foldedSetIterable iter X.env x = pure x) : PSw X (.For tg iter body [] pos) (wFor wi p u) where
  mono := fun ρ S k k' h1 h2 h3 h4 q => hi.mono _ _ _ _ (fun s S1 q1 => forGo_mono hb.mono _ _ _ _ _ h1 h2 q1) q
  ps := PS.weak (ps_for hp hcalm hi.pi hg hb.ps hs) fun E σ H ⟨k, ρ, ι, S, Er, R, D, q⟩ => by
    refine ⟨ρ, ι, S, Er, R, hi.mono _ _ _ _ (fun s S1 q1 J H1 ι1 T1 R1 ok => ?_) q⟩
    refine ⟨fun i m σ' H' => i + m = s.items.length ∧ ∃ ρ' ι' S', RepE X.K H' ι' σ' ρ' ∧ RepS X.K H' ι' S' ∧ Tr H1 ι1 H' ι' ∧ forGo s.stab p u k (s.items.drop i) ρ' S',
      ⟨s.items.length, Nat.zero_add _, ρ, ι1, S1, Er.tr R T1, R1, Tr.refl _ _, q1⟩, fun i m σ' H' ⟨hm, ρ', ι', S', E', R', T', q'⟩ => ?_⟩
    have hst := forGo_st q'
    obtain ⟨o1, o2⟩ := ok i H' ι' S' T' R' hst
    by_cases hl : s.items.length ≤ i
    · left
      rw [List.drop_of_length_le hl] at q'
      exact ⟨o2 hl, D.nx ρ' S' σ' H' ι' (T1.trans T') R' E' q'.2⟩
    · right
      have hl' : i < s.items.length := Nat.lt_of_not_le hl
      have e1 : s.items[i]? = some s.items[i] := List.getElem?_eq_getElem hl'
      obtain ⟨g1, g2⟩ := o1 _ e1
      rw [List.drop_eq_getElem_cons hl'] at q'
      refine ⟨g1, fun σ2 H2 => ∃ ρ2 ι2 S2, RepE X.K H2 ι2 σ2 ρ2 ∧ RepS X.K H2 ι2 S2 ∧ Tr H1 ι1 H2 ι2 ∧ forGo s.stab p u k (s.items.drop (i + 1)) ρ2 S2, fun σ2 H2 z => ⟨m - 1, by omega, by omega, z⟩, fun x H2 hy => ?_⟩
      obtain ⟨T2, R2, rx⟩ := g2 x H2 hy
      obtain ⟨ρ2, e2, q2⟩ := gv_iff.mp q'.2
      refine bindP_S e2 (E'.tr R' T2) rx fun σ3 E3 _ => ?_
      refine ⟨{ k with nx := forGo s.stab p u k (s.items.drop (i + 1)), ct := forGo s.stab p u k (s.items.drop (i + 1)), bk := k.nx }, ρ2, ι', S', E3, R2, ⟨?_, ?_, ?_, ?_⟩, q2⟩
      · exact fun ρ4 S4 σ4 H4 ι4 T4 R4 E4 q4 => ⟨ρ4, ι4, S4, E4, R4, (T'.trans T2).trans T4, q4⟩
      · exact fun d4 S4 v4 H4 ι4 T4 R4 r4 q4 => D.rt d4 S4 v4 H4 ι4 (((T1.trans T').trans T2).trans T4) R4 r4 q4
      · exact fun ρ4 S4 σ4 H4 ι4 T4 R4 E4 q4 => D.nx ρ4 S4 σ4 H4 ι4 (((T1.trans T').trans T2).trans T4) R4 E4 q4
      · exact fun ρ4 S4 σ4 H4 ι4 T4 R4 E4 q4 => ⟨ρ4, ι4, S4, E4, R4, (T'.trans T2).trans T4, q4⟩
end
end WW


set_option Elab.async false
set_option linter.all false
set_option maxRecDepth 100000
set_option maxHeartbeats 4000000
set_option autoImplicit false
namespace WW
open PySem PySem.Spec PyProof.Rows L2

/-! ### list comprehensions -/
def lcGo (st : Sto → Prop) (p : Pat) (t : WT) (e : W) (ρ0 : Rho) (Q : Q1) : List D → List D → Sto → Prop
  | [], acc, S => st S ∧ Q (.ref S.length) (S ++ [.lst acc])
  | d :: r, acc, S => st S ∧ gv (bindP p d ρ0) fun ρ1 => t ρ1 S fun b S1 => if b = true then e ρ1 S1 fun y S2 => acc.length < sizeLine ∧ lcGo st p t e ρ0 Q r (acc ++ [y]) S2 else lcGo st p t e ρ0 Q r acc S1
def wLc (wi : WI) (p : Pat) (t : WT) (e : W) (vs : List Nat) : W := fun ρ S Q => wi ρ S fun s S1 => lcGo s.stab p t e (wipeR ρ vs) Q s.items [] S1
def wYes : WT := fun _ S Q => Q true S
theorem wYes_mono : MonoT wYes := fun ρ S Q Q' h q => h _ _ q
section
variable {K : PySem.W.Frag} {H H' : Hp} {ι ι' : List Addr} {S : Sto}
theorem Tr.push (T : Tr H ι H' ι') {a : Addr} (h : a ∈ ι ∨ H a = none) : Tr H ι H' (ι' ++ [a]) := by
  obtain ⟨t, e, ht⟩ := T.ext
  refine ⟨⟨t ++ [a], by rw [e, List.append_assoc], fun b hb => ?_⟩, T.keep⟩
  rcases List.mem_append.mp hb with q | q
  · exact ht b q
  · rw [List.mem_singleton] at q
    subst q
    exact h
mutual
theorem RepV.more {a : Addr} : ∀ (d : D) (v : V), RepV K H ι d v → RepV K H (ι ++ [a]) d v
  | .non, _, h => h
  | .bl _, _, h => h
  | .int _, _, h => h
  | .str _, _, h => h
  | .ref n, v, q => by
    obtain ⟨b, h1, h2⟩ := q
    exact ⟨b, by rw [List.getElem?_append_left (List.getElem?_eq_some_iff.mp h1).1]; exact h1, h2⟩
  | .tup ds, v, q => by
    obtain ⟨b, ys, h1, h2, h3⟩ := q
    exact ⟨b, ys, h1, h2, RepVs.more ds ys h3⟩
  | .fro ds, v, q => by
    obtain ⟨b, ys, h1, h2, h3⟩ := q
    exact ⟨b, ys, h1, h2, RepVs.more ds ys h3⟩
theorem RepVs.more {a : Addr} : ∀ (ds : List D) (vs : List V), RepVs K H ι ds vs → RepVs K H (ι ++ [a]) ds vs
  | [], _, q => q
  | d :: ds, vs, q => by
    obtain ⟨x, r, h1, h2, h3⟩ := q
    exact ⟨x, r, h1, RepV.more d x h2, RepVs.more ds r h3⟩
end
/-- an object that stands beside becomes one of the store -/
theorem RepS.push (R : RepS K H ι S) {a : Addr} {xs : List V} {ds : List D} (hn : a ∉ ι) (h : H a = some (.lst xs)) (r : RepVs K H ι ds xs) : RepS K H (ι ++ [a]) (S ++ [.lst ds]) := by
  refine ⟨by simp [R.len], ?_, fun n b u e1 e2 => ?_⟩
  · rw [List.nodup_append]
    refine ⟨R.nd, by simp, fun x hx y hy => ?_⟩
    rw [List.mem_singleton] at hy
    subst hy
    intro e
    subst e
    exact hn hx
  · by_cases hl : n < ι.length
    · rw [List.getElem?_append_left hl] at e1
      rw [List.getElem?_append_left (by rw [← R.len]; exact hl)] at e2
      have q := R.ob n b u e1 e2
      cases u with
      | lst es =>
        obtain ⟨ys, e, r'⟩ := q
        exact ⟨ys, e, RepVs.more _ _ r'⟩
    · rw [List.getElem?_append_right (Nat.le_of_not_lt hl)] at e1
      rw [List.getElem?_append_right (by rw [← R.len]; exact Nat.le_of_not_lt hl), ← R.len] at e2
      cases hk : n - ι.length with
      | zero =>
        rw [hk] at e1 e2
        simp at e1 e2
        subst e1
        subst e2
        exact ⟨xs, h, RepVs.more _ _ r⟩
      | succ k =>
        rw [hk] at e1
        simp at e1
end
section
variable {K : PySem.W.Frag} {H : Hp} {ι : List Addr} {a : Addr} {zs : List V} {o : HO}
theorem SqT.beside {b : Addr} {ys : List V} (h : H a = some (.lst zs)) (q : SqT K H b ys) : SqT K (upd H a o) b ys := by
  rcases q with (q | ⟨u, q⟩) | q
  · exact .inl (.inl (by rw [upd_ne (fun e => by subst e; rw [h] at q; cases q)]; exact q))
  · exact .inl (.inr ⟨u, by rw [upd_ne (fun e => by subst e; rw [h] at q; cases q)]; exact q⟩)
  · exact .inr q
theorem SqK.beside {b : Addr} {ys : List V} (h : H a = some (.lst zs)) (q : SqK K H b ys) : SqK K (upd H a o) b ys := by
  rcases q with ⟨u, q⟩ | q
  · exact .inl ⟨u, by rw [upd_ne (fun e => by subst e; rw [h] at q; cases q)]; exact q⟩
  · exact .inr q
mutual
theorem RepV.beside (hn : a ∉ ι) (h : H a = some (.lst zs)) : ∀ (d : D) (v : V), RepV K H ι d v → RepV K (upd H a o) ι d v
  | .non, _, q => q
  | .bl _, _, q => q
  | .int _, _, q => q
  | .str _, _, q => q
  | .ref n, v, q => q
  | .tup ds, v, q => by
    obtain ⟨b, ys, h1, h2, h3⟩ := q
    exact ⟨b, ys, h1, SqT.beside h h2, RepVs.beside hn h ds ys h3⟩
  | .fro ds, v, q => by
    obtain ⟨b, ys, h1, h2, h3⟩ := q
    exact ⟨b, ys, h1, SqK.beside h h2, RepVs.beside hn h ds ys h3⟩
theorem RepVs.beside (hn : a ∉ ι) (h : H a = some (.lst zs)) : ∀ (ds : List D) (vs : List V), RepVs K H ι ds vs → RepVs K (upd H a o) ι ds vs
  | [], _, q => q
  | d :: ds, vs, q => by
    obtain ⟨x, r, h1, h2, h3⟩ := q
    exact ⟨x, r, h1, RepV.beside hn h d x h2, RepVs.beside hn h ds r h3⟩
end
end
section
variable {X : Cx}
theorem lcGo_mono {st : Sto → Prop} {p : Pat} {t : WT} {e : W} {ρ0 : Rho} (mt : MonoT t) (me : MonoW e) : ∀ (ds acc : List D) (S : Sto) (Q Q' : Q1), (∀ d S', Q d S' → Q' d S') → lcGo st p t e ρ0 Q ds acc S → lcGo st p t e ρ0 Q' ds acc S
  | [], acc, S, Q, Q', h, q => ⟨q.1, h _ _ q.2⟩
  | d :: r, acc, S, Q, Q', h, ⟨q1, q2⟩ => by
    obtain ⟨ρ1, e1, q⟩ := gv_iff.mp q2
    exact ⟨q1, gv_iff.mpr ⟨ρ1, e1, mt _ _ _ _ (fun b S1 z => by
      cases b with
      | true => exact me _ _ _ _ (fun y S2 z => ⟨z.1, lcGo_mono mt me r _ _ Q Q' h z.2⟩) z
      | false => exact lcGo_mono mt me r _ _ Q Q' h z) q⟩⟩
theorem lcGo_st {st : Sto → Prop} {p : Pat} {t : WT} {e : W} {ρ0 : Rho} {ds acc : List D} {S : Sto} {Q : Q1} (q : lcGo st p t e ρ0 Q ds acc S) : st S := by
  cases ds <;> exact q.1
theorem wLc_mono {wi : WI} {p : Pat} {t : WT} {e : W} {vs : List Nat} (mi : MonoI wi) (mt : MonoT t) (me : MonoW e) : MonoW (wLc wi p t e vs) := fun ρ S Q Q' h q =>
  mi _ _ _ _ (fun s S1 q1 => lcGo_mono mt me _ _ _ _ _ h q1) q
theorem lc_down {K : PySem.W.Frag} {wi : WI} {p : Pat} {t : WT} {e : W} {vs : List Nat} {tt : TT} (hi : MonoI wi) (mt : MonoT t) (me : MonoW e) (ht : ∀ σ H Q, tT K t σ H Q → tt σ H Q) (hp : ∀ i ∈ p.vs, i ∈ vs) :
    ∀ σ H Q, tE K (wLc wi p t e vs) σ H Q → tLc (tI K wi) (gP K p) tt (tE K e) vs σ H Q := fun σ H Q ⟨ρ, ι, S, Er, R, q⟩ => by
  refine ⟨ρ, ι, S, Er, R, hi _ _ _ _ (fun s S1 q1 J H1 ι1 T1 R1 ok => ?_) q⟩
  intro Dl hD
  have hDι : Dl ∈ ι ∨ H Dl = none := by
    by_cases hm : Dl ∈ ι
    · exact .inl hm
    · right
      cases z : H Dl with
      | none => rfl
      | some o => rw [T1.keep Dl o z hm] at hD; cases hD
  refine ⟨fun i m H' => i + m = s.items.length ∧ ∃ ι' S' acc xs, RepS K H' ι' S' ∧ Tr H1 ι1 H' ι' ∧ H' Dl = some (.lst xs) ∧ Dl ∉ ι' ∧ RepVs K H' ι' acc xs ∧ lcGo s.stab p t e (wipeR ρ vs) (fun d S' => ∀ v H' ι', Tr H ι H' ι' → RepS K H' ι' S' → RepV K H' ι' d v → Q v H') (s.items.drop i) acc S',
    ⟨s.items.length, Nat.zero_add _, ι1, S1, [], [], RepS.new R1 hD, Tr.new R1 hD, upd_same, R1.fresh hD, rfl, q1⟩, fun i m H' ⟨hm, ι', S', acc, xs, R', T', hDl, hDn, ra, q'⟩ => ?_⟩
  have hst := lcGo_st q'
  obtain ⟨o1, o2⟩ := ok i H' ι' S' T' R' hst
  by_cases hl : s.items.length ≤ i
  · left
    rw [List.drop_of_length_le hl] at q'
    refine ⟨o2 hl, q'.2 _ H' (ι' ++ [Dl]) ((T1.trans T').push hDι) (R'.push hDn hDl ra) ⟨Dl, ?_, rfl⟩⟩
    rw [← R'.len]
    simp
  · right
    have hl' : i < s.items.length := Nat.lt_of_not_le hl
    have e1 : s.items[i]? = some s.items[i] := List.getElem?_eq_getElem hl'
    obtain ⟨g1, g2⟩ := o1 _ e1
    rw [List.drop_eq_getElem_cons hl'] at q'
    refine ⟨g1, fun H2 => ∃ ι2 S2 acc xs, RepS K H2 ι2 S2 ∧ Tr H1 ι1 H2 ι2 ∧ H2 Dl = some (.lst xs) ∧ Dl ∉ ι2 ∧ RepVs K H2 ι2 acc xs ∧ lcGo s.stab p t e (wipeR ρ vs) (fun d S' => ∀ v H' ι', Tr H ι H' ι' → RepS K H' ι' S' → RepV K H' ι' d v → Q v H') (s.items.drop (i + 1)) acc S2,
      fun H2 z => ⟨m - 1, by omega, by omega, z⟩, fun x H2 hy => ?_⟩
    obtain ⟨T2, R2, rx⟩ := g2 x H2 hy
    obtain ⟨ρ2, e2, q2⟩ := gv_iff.mp q'.2
    have E2 : RepE K H2 ι' (L2.wipe σ vs) (wipeR ρ vs) := ((Er.tr R T1).tr R1 (T'.trans T2)).wipe vs
    refine bindP_S e2 E2 rx fun σ3 E3 on => ⟨?_, ?_⟩
    · rw [wipe_only (on.mono hp), wipe_wipe]
    · refine ht _ _ _ (tT_k mt E3 R2 q2 fun b S3 H3 ι3 T3 R3 E4 q3 => ?_)
      have hD3 : H3 Dl = some (.lst xs) := T3.keep _ _ (T2.keep _ _ hDl hDn) hDn
      have hn3 : Dl ∉ ι3 := T3.nmem (T2.keep _ _ hDl hDn) hDn
      have ra3 : RepVs K H3 ι3 acc xs := RepVs.tr R2 T3 _ _ (RepVs.tr R' T2 _ _ ra)
      cases b with
      | false => exact ⟨ι3, S3, acc, xs, R3, (T'.trans T2).trans T3, hD3, hn3, ra3, q3⟩
      | true =>
        refine tE_k me E4 R3 q3 fun y S4 v H4 ι4 T4 R4 ry E5 q4 => ?_
        have hD4 : H4 Dl = some (.lst xs) := T4.keep _ _ hD3 hn3
        have hn4 : Dl ∉ ι4 := T4.nmem hD3 hn3
        have ra4 : RepVs K H4 ι4 acc xs := RepVs.tr R3 T4 _ _ ra3
        refine ⟨xs, hD4, by rw [← ra4.length]; exact q4.1, ι4, S4, acc ++ [y], xs ++ [v], ?_, ?_, upd_same, hn4, ?_, q4.2⟩
        · refine ⟨R4.len, R4.nd, fun n a o h1 h2 => ?_⟩
          have z := R4.ob n a o h1 h2
          have ha : a ≠ Dl := fun z => hn4 (by subst z; exact List.mem_of_getElem? h1)
          cases o with
          | lst es =>
            obtain ⟨ys, z1, z2⟩ := z
            exact ⟨ys, by rw [upd_ne ha]; exact z1, RepVs.beside hn4 hD4 _ _ z2⟩
        · have T5 := ((T'.trans T2).trans T3).trans T4
          refine ⟨T5.ext, fun a o ha hn => ?_⟩
          by_cases hz : a = Dl
          · subst hz
            rw [hD] at ha
            cases ha
          · rw [upd_ne hz]
            exact T5.keep a o ha hn
        · exact RepVs.app (RepVs.beside hn4 hD4 _ _ ra4) (RepVs.one (RepV.beside hn4 hD4 _ _ ry))
end
end WW


set_option Elab.async false
set_option linter.all false
set_option maxRecDepth 100000
set_option maxHeartbeats 4000000
set_option autoImplicit false
namespace WW
open PySem PySem.Spec PyProof.Rows L2

theorem PTs.weak {X : Cx} {ifs : List Expr} {t t' : TT} (h : PTs X ifs t) (w : ∀ σ H Q, t' σ H Q → t σ H Q) : PTs X ifs t' := ⟨fun pins s σ H Q I q => h.run pins s σ H Q I (w σ H Q q)⟩
structure PTsw (X : Cx) (ifs : List Expr) (w : WT) : Prop where
  mono : MonoT w
  pe : PTs X ifs (tT X.K w)
section
variable {X : Cx}
theorem pw_ifs0 : PTsw X [] wYes where
  mono := wYes_mono
  pe := PTs.weak pts_nil fun σ H Q ⟨ρ, ι, S, E, R, q⟩ => q H ι (Tr.refl _ _) R
theorem pw_ifs1 {c : Expr} {w : WT} (h : PTw X c w) : PTsw X [c] w := ⟨h.mono, pts_one h.pe⟩
theorem pw_lc {elt tg iter : Expr} {ifs : List Expr} {scope : Scope} {own : List (Str × Nat)} {pos : Pos} {wi : WI} {p : Pat} {t : WT} {e : W} (hc : X.calm = true) (hN : X.N.Nodup) (hi : PIw X tg iter wi) (ok : BlkOk X.N X.env.scope scope own) (mt : MonoT t) (me : MonoW e)
    (hp : ∀ i ∈ p.vs, i ∈ own.map (·.2))
    (hg : ∀ (s : Shared) (H : Hp) (C : Addr) (cl : List (Str × Addr)) (fp : List Addr), PG (X.blk s H scope (compEnvC scope cl C X.env) fp) tg (gP X.K p)) (ht : ∀ (s : Shared) (H : Hp) (C : Addr) (cl : List (Str × Addr)) (fp : List Addr), PTs (X.blk s H scope (compEnvC scope cl C X.env) fp) ifs (tT X.K t))
    (he : ∀ (s : Shared) (H : Hp) (C : Addr) (cl : List (Str × Addr)) (fp : List Addr), PE (X.blk s H scope (compEnvC scope cl C X.env) fp) elt (tE X.K e)) (hs : ∀ x, foldedSetIterable iter X.env x = pure x) :
    PEw X (.ListComp elt [⟨tg, iter, ifs, 0⟩] scope pos) (wLc wi p t e (own.map (·.2))) where
  mono := wLc_mono hi.mono mt me
  pe := PE.weak (pe_lc hc hN hi.pi ok hg ht he hs) (lc_down hi.mono mt me (fun _ _ _ q => q) hp)
theorem pw_setLc {i : Nat} {y : Str} {py : Pos} {elt tg iter : Expr} {ifs : List Expr} {scope : Scope} {own : List (Str × Nat)} {pos spos : Pos} {wi : WI} {p : Pat} {t : WT} {e : W} (hc : X.calm = true) (hN : X.N.Nodup) (hy : X.N[i]? = some y) (hyl : X.env.scope.names.lookup y = some .local)
    (hsw : swapsWith (.ListComp elt [⟨tg, iter, ifs, 0⟩] scope pos) (some (.Name y py)) spos.line X.env = pure true) (hi : PIw X tg iter wi) (ok : BlkOk X.N X.env.scope scope own) (mt : MonoT t) (me : MonoW e)
    (hp : ∀ i ∈ p.vs, i ∈ own.map (·.2))
    (hg : ∀ (s : Shared) (H : Hp) (C : Addr) (cl : List (Str × Addr)) (fp : List Addr), PG (X.blk s H scope (compEnvC scope cl C X.env) fp) tg (gP X.K p)) (ht : ∀ (s : Shared) (H : Hp) (C : Addr) (cl : List (Str × Addr)) (fp : List Addr), PTs (X.blk s H scope (compEnvC scope cl C X.env) fp) ifs (tT X.K t))
    (he : ∀ (s : Shared) (H : Hp) (C : Addr) (cl : List (Str × Addr)) (fp : List Addr), PE (X.blk s H scope (compEnvC scope cl C X.env) fp) elt (tE X.K e)) (hs : ∀ x, foldedSetIterable iter X.env x = pure x) :
    PSw X (.Assign [.Name y py] (.ListComp elt [⟨tg, iter, ifs, 0⟩] scope pos) spos) (wAsg i (wLc wi p t e (own.map (·.2)))) where
  mono := fun ρ S k k' h1 h2 h3 h4 q => wLc_mono hi.mono mt me _ _ _ _ (fun d S' z => h1 _ _ z) q
  ps := PS.weak (ps_setLc hc hN hy hyl hsw hi.pi ok hg ht he hs) fun E σ H ⟨k, ρ, ι, S, Er, R, D, q⟩ => by
    refine lc_down hi.mono mt me (fun _ _ _ q => q) hp _ _ _ (tE_k (wLc_mono hi.mono mt me) Er R q fun d S1 v H1 ι1 T1 R1 r E1 q1 => ?_)
    exact D.nx _ S1 _ H1 ι1 T1 R1 (E1.put r) q1
end

/-! ### calls of what is built in -/
def lenC : CalD
  | [.tup ds], S, Q => Q (.int (ds.length : Nat)) S
  | [.fro ds], S, Q => Q (.int (ds.length : Nat)) S
  | [.ref n], S, Q => ∃ ds, S[n]? = some (.lst ds) ∧ Q (.int (ds.length : Nat)) S
  | [.str z], S, Q => z.length ≤ sizeLine ∧ Q (.int (z.length : Nat)) S
  | _, _, _ => False
def listC : CalD
  | [.tup ds], S, Q => Q (.ref S.length) (S ++ [.lst ds])
  | [.fro ds], S, Q => Q (.ref S.length) (S ++ [.lst ds])
  | [.ref n], S, Q => ∃ ds, S[n]? = some (.lst ds) ∧ Q (.ref S.length) (S ++ [.lst ds])
  | _, _, _ => False
def tupleC : CalD
  | [.tup ds], S, Q => Q (.tup ds) S
  | [.fro ds], S, Q => Q (.tup ds) S
  | [.ref n], S, Q => ∃ ds, S[n]? = some (.lst ds) ∧ Q (.tup ds) S
  | _, _, _ => False
def intC : CalD
  | [.int i], S, Q => Q (.int i) S
  | _, _, _ => False
section
variable {X : Cx}
theorem lenC_S : CalS X (.builtin "len") lenC where
  mono := fun ds S Q Q' h q => by
    unfold lenC at q ⊢
    split at q
    · exact h _ _ q
    · exact h _ _ q
    · obtain ⟨ds, a, b⟩ := q; exact ⟨ds, a, h _ _ b⟩
    · exact ⟨q.1, h _ _ q.2⟩
    · exact q.elim
  rd := ⟨_, CallR.or call_len_seq call_len_str, fun ds S Q vs H ι QV R rs q k => by
    unfold lenC at q
    split at q
    · obtain ⟨v, r, rfl, rv, rr⟩ := rs
      cases rr
      obtain ⟨a, xs, rfl, hx, r2⟩ := rv
      exact .inl ⟨a, xs, rfl, .inr hx, by rw [← r2.length]; exact k.here R (d := .int _) rfl q⟩
    · obtain ⟨v, r, rfl, rv, rr⟩ := rs
      cases rr
      obtain ⟨a, xs, rfl, hx, r2⟩ := rv
      exact .inl ⟨a, xs, rfl, .inl hx.sq, by rw [← r2.length]; exact k.here R (d := .int _) rfl q⟩
    · obtain ⟨v, r, rfl, rv, rr⟩ := rs
      cases rr
      obtain ⟨ds, e, q⟩ := q
      obtain ⟨a, xs, rfl, _, hx, r2⟩ := R.list rv e
      exact .inl ⟨a, xs, rfl, .inl (.inl (.inl hx)), by rw [← r2.length]; exact k.here R (d := .int _) rfl q⟩
    · obtain ⟨v, r, rfl, rv, rr⟩ := rs
      cases rr
      cases rv
      exact .inr ⟨_, rfl, q.1, k.here R (d := .int _) rfl q.2⟩
    · exact q.elim⟩
theorem listC_S : CalS X (.type "list") listC where
  mono := fun ds S Q Q' h q => by
    unfold listC at q ⊢
    split at q
    · exact h _ _ q
    · exact h _ _ q
    · obtain ⟨ds, a, b⟩ := q; exact ⟨ds, a, h _ _ b⟩
    · exact q.elim
  rd := ⟨_, call_list_of, fun ds S Q vs H ι QV R rs q k => by
    unfold listC at q
    split at q
    · obtain ⟨v, r, rfl, rv, rr⟩ := rs
      cases rr
      obtain ⟨a, xs, rfl, hx, r2⟩ := rv
      exact ⟨a, xs, rfl, .inr hx, k.newL R r2 q⟩
    · obtain ⟨v, r, rfl, rv, rr⟩ := rs
      cases rr
      obtain ⟨a, xs, rfl, hx, r2⟩ := rv
      exact ⟨a, xs, rfl, .inl hx.sq, k.newL R r2 q⟩
    · obtain ⟨v, r, rfl, rv, rr⟩ := rs
      cases rr
      obtain ⟨ds, e, q⟩ := q
      obtain ⟨a, xs, rfl, _, hx, r2⟩ := R.list rv e
      exact ⟨a, xs, rfl, .inl (.inl (.inl hx)), k.newL R r2 q⟩
    · exact q.elim⟩
theorem tupleC_S : CalS X (.type "tuple") tupleC where
  mono := fun ds S Q Q' h q => by
    unfold tupleC at q ⊢
    split at q
    · exact h _ _ q
    · exact h _ _ q
    · obtain ⟨ds, a, b⟩ := q; exact ⟨ds, a, h _ _ b⟩
    · exact q.elim
  rd := ⟨_, call_tuple_of, fun ds S Q vs H ι QV R rs q k => by
    unfold tupleC at q
    split at q
    · obtain ⟨v, r, rfl, rv, rr⟩ := rs
      cases rr
      obtain ⟨a, xs, rfl, hx, r2⟩ := rv
      exact ⟨a, xs, rfl, .inr ⟨hx, k.here R (d := .tup _) ⟨a, xs, rfl, hx, r2⟩ q⟩⟩
    · obtain ⟨v, r, rfl, rv, rr⟩ := rs
      cases rr
      obtain ⟨a, xs, rfl, hx, r2⟩ := rv
      exact ⟨a, xs, rfl, .inl ⟨hx.sq, k.newT R r2 q⟩⟩
    · obtain ⟨v, r, rfl, rv, rr⟩ := rs
      cases rr
      obtain ⟨ds, e, q⟩ := q
      obtain ⟨a, xs, rfl, _, hx, r2⟩ := R.list rv e
      exact ⟨a, xs, rfl, .inl ⟨.inl (.inl hx), k.newT R r2 q⟩⟩
    · exact q.elim⟩
theorem intC_S : CalS X (.type "int") intC where
  mono := fun ds S Q Q' h q => by
    unfold intC at q ⊢
    split at q
    · exact h _ _ q
    · exact q.elim
  rd := ⟨_, call_int1, fun ds S Q vs H ι QV R rs q k => by
    unfold intC at q
    split at q
    · rw [repVs1 rs]
      exact .inl ⟨_, rfl, k.here R (d := .int _) rfl q⟩
    · exact q.elim⟩

/-! ### methods of lists -/
def lstTy : D → Sto → Prop
  | .ref n, S => ∃ ds, S[n]? = some (.lst ds)
  | _, _ => False
def appM : MetD
  | .ref n, [d], S, Q => ∃ ds, S[n]? = some (.lst ds) ∧ ds.length < sizeLine ∧ Q .non (S.set n (.lst (ds ++ [d])))
  | _, _, _, _ => False
def popM : MetD
  | .ref n, [], S, Q => ∃ ds, S[n]? = some (.lst ds) ∧ gv (ds[ds.length - 1]?) fun d => Q d (S.set n (.lst ds.dropLast))
  | _, _, _, _ => False
def extM : MetD
  | .ref n, [.ref m], S, Q => ∃ ds es, S[n]? = some (.lst ds) ∧ S[m]? = some (.lst es) ∧ ds.length + es.length ≤ sizeLine ∧ Q .non (S.set n (.lst (ds ++ es)))
  | _, _, _, _ => False
theorem lstTy_V {K : PySem.W.Frag} : ∀ x S v H ι, RepS K H ι S → RepV K H ι x v → lstTy x S → tyV K "list" v H := fun x S v H ι R r h => by
  cases x with
  | ref n =>
    obtain ⟨ds, e⟩ := h
    obtain ⟨a, xs, rfl, _, hx, _⟩ := R.list r e
    exact .inl ⟨rfl, xs, .inl (.inl hx)⟩
  | non => exact h.elim
  | bl _ => exact h.elim
  | int _ => exact h.elim
  | str _ => exact h.elim
  | tup _ => exact h.elim
  | fro _ => exact h.elim
theorem RepVs.dropLast {K : PySem.W.Frag} {H : Hp} {ι : List Addr} {ds : List D} {xs : List V} (h : RepVs K H ι ds xs) : RepVs K H ι ds.dropLast xs.dropLast := by
  rw [List.dropLast_eq_take, List.dropLast_eq_take, ← h.length]
  exact RepVs.take _ h
theorem appM_S : MetS X "list" "list.append" lstTy appM where
  mono := fun x ds S Q Q' h q => by
    unfold appM at q ⊢
    split at q
    · obtain ⟨ds, a, b, c⟩ := q; exact ⟨ds, a, b, h _ _ c⟩
    · exact q.elim
  ty_ := lstTy_V
  rd := ⟨_, mt_append, fun x ds S Q v vs H ι QV R rx rs q k => by
    unfold appM at q
    split at q
    · obtain ⟨es, e, hl, q⟩ := q
      obtain ⟨a, xs, rfl, hi, hx, r2⟩ := R.list rx e
      obtain ⟨w, r, rfl, rv, rr⟩ := rs
      cases rr
      exact ⟨a, xs, w, rfl, rfl, hx, by rw [← r2.length]; exact hl, k _ _ q .non _ ι (Tr.write R hi) (RepS.write R hi (RepVs.app r2 (RepVs.one rv))) rfl⟩
    · exact q.elim⟩
theorem popM_S : MetS X "list" "list.pop" lstTy popM where
  mono := fun x ds S Q Q' h q => by
    unfold popM at q ⊢
    split at q
    · obtain ⟨ds, a, b⟩ := q
      obtain ⟨d, e, c⟩ := gv_iff.mp b
      exact ⟨ds, a, gv_iff.mpr ⟨d, e, h _ _ c⟩⟩
    · exact q.elim
  ty_ := lstTy_V
  rd := ⟨_, mt_pop, fun x ds S Q v vs H ι QV R rx rs q k => by
    unfold popM at q
    split at q
    · obtain ⟨es, e, q⟩ := q
      obtain ⟨d, e2, q⟩ := gv_iff.mp q
      obtain ⟨a, xs, rfl, hi, hx, r2⟩ := R.list rx e
      cases rs
      obtain ⟨y, hy, ry⟩ := r2.get e2
      exact ⟨a, xs, y, rfl, rfl, hx, by rw [← r2.length]; exact hy, k _ _ q y _ ι (Tr.write R hi) (RepS.write R hi r2.dropLast) (RepV.tr R (Tr.write R hi) _ _ ry)⟩
    · exact q.elim⟩
theorem extM_S : MetS X "list" "list.extend" lstTy extM where
  mono := fun x ds S Q Q' h q => by
    unfold extM at q ⊢
    split at q
    · obtain ⟨ds, es, a, b, c, d⟩ := q; exact ⟨ds, es, a, b, c, h _ _ d⟩
    · exact q.elim
  ty_ := lstTy_V
  rd := ⟨_, mt_extend, fun x ds S Q v vs H ι QV R rx rs q k => by
    unfold extM at q
    split at q
    · obtain ⟨ds, es, e1, e2, hl, q⟩ := q
      obtain ⟨a, xs, rfl, hi, hx, r2⟩ := R.list rx e1
      obtain ⟨w, r, rfl, rv, rr⟩ := rs
      cases rr
      obtain ⟨b, ys, rfl, hj, hy, r3⟩ := R.list rv e2
      exact ⟨a, b, xs, ys, rfl, rfl, hx, hy, by rw [← r2.length, ← r3.length]; exact hl, k _ _ q .non _ ι (Tr.write R hi) (RepS.write R hi (RepVs.app r2 r3)) rfl⟩
    · exact q.elim⟩
end
end WW


set_option Elab.async false
set_option linter.all false
set_option maxRecDepth 100000
set_option maxHeartbeats 4000000
set_option autoImplicit false
namespace WW
open PySem PySem.Spec PyProof.Rows L2

/-! ### sorted(set(xs)) of a list of ints, any number of them (below the set's own line) -/
/-- an empty set, as set() lays it -/
abbrev emptySet (w : World) : Obj := { cls := .type "set", dict := none, data := .set #[] 0 (.fresh 0 0 (!w.params.followText "set-order")) }
section
variable {P : Program} {w : World} {A : Around} {E : Value → Shared → Prop} {s : Shared}
set_option maxHeartbeats 8000000 in
theorem set_list {l : Addr} {its : Array Value} (ns : List Int) {Q : Value → Shared → Prop} (noh : A.handled = none) (hl : s.heap.IsList l its) (hit : IntsAre its.toList ns) (few : ns.length + 1 < scanBound)
    (h : ∀ (h' : Heap) (tk c : Nat), SetR w h' s.heap.objs.size (fun j => decide (j ∈ ns)) c → c ≤ ns.length → (∀ b o, s.heap.get? b = some o → h'.get? b = some o) → Q (.ref s.heap.objs.size) { s with heap := h', toks := tk }) :
    wpAny (model P w) A (call (.type "set") [.ref l]) Q E s := by
  have sz : its.size = ns.length := by
    rw [← IntsAre.length hit, Array.length_toList]
  obtain ⟨c0, tl0, mro0⟩ := F.called_set.mro
  have f1 := F.called_set.made
  have f2 := F.called_set.sub
  refine wpAny_call (codeAny_of_tree ?_)
  show wpAny _ _ (callAny (.type "set") _) _ _ _
  refine wpAny_pure ⟨Code.quiet_builtin _ (by decide +kernel), codeAny_builtin F.entry_type_call ?_⟩
  rw [Around.under_plain (weight_type_call_type "set" [.ref l] []) rfl]
  have f3 := F.called_set.notType
  have f4 := F.called_set.canCreate
  have f5 := F.typeCall_set_1 (.ref l)
  repeat (any_goals (first | assumption | wp_step))
  refine codeAny_mono (code_set_led1 (.ref l) (E := E) (Q₁ := fun ob t => ob = .ref s.heap.objs.size ∧ t = { s with heap := s.heap.push (emptySet w) }) ⟨rfl, rfl⟩) fun r t ht => ?_
  cases r with
  | error e => exact ht
  | ok fl =>
    cases fl with
    | ret ob =>
      obtain ⟨rfl, rfl⟩ := ht
      have new0 : (s.heap.push (emptySet w)).get? s.heap.objs.size = some (emptySet w) := Heap.get?_push_size _ rfl
      have ty0 : Shared.TypeIs { s with heap := s.heap.push (emptySet w) } (.ref s.heap.objs.size) "set" := ⟨_, new0, rfl⟩
      have f6 := F.called_set.init.lookup
      have f7 := F.called_set.init.bind (.ref s.heap.objs.size)
      repeat (any_goals (first | assumption | wp_step))
      refine codeAny_mono (codeAny_call_builtin (R := wants (fun r t2 => r = .none ∧ ∃ h' tk c, t2 = { s with heap := h', toks := tk } ∧ SetR w h' s.heap.objs.size (fun j => decide (j ∈ ns)) c ∧ c ≤ ns.length ∧
          (∀ b o, s.heap.get? b = some o → h'.get? b = some o)) E) F.called_set.init.plain F.entry_set_init (check_set_init_1 ty0 ?_)) fun r2 t2 h2 => ?_
      · obtain ⟨ol, hol, hcl, nl, hdl⟩ := hl
        obtain ⟨ocls, odict, odata, oslots⟩ := ol
        simp only at hcl hdl
        subst hcl; subst hdl
        have hol' : (s.heap.push (emptySet w)).get? l = some { cls := .type "list", dict := odict, data := .seq its nl, slots := oslots } := Heap.get?_push_of_some _ hol
        have g1 := F.sub_list_set
        have g2 := F.sub_list_frozenset
        have g3 : (Value.type "list" == Value.type "dict") = false := by decide
        have isl : (s.heap.push (emptySet w)).IsList l its := ⟨_, hol', rfl, nl, rfl⟩
        unfold Builtin.«set.__init__» noKeywords Builtin.Frozenset.updateFrom
        generalize hPI : pyIter = PI
        wp_walk
        subst hPI
        refine wpAny_pyIter_list isl ?_
        refine wpAny_bind (wpAny_runValue ?_)
        have ltl : l < s.heap.objs.size := Heap.lt_size hol
        have noh3 : A.in1.in1.in1.handled = none := by simp [noh]
        have szp : (s.heap.push (emptySet w)).objs.size = s.heap.objs.size + 1 := Heap.size_push ..
        have apart : l ≠ (s.heap.push (emptySet w)).objs.size := by
          rw [szp]; exact Nat.ne_of_lt (Nat.lt_succ_of_lt ltl)
        have notfp : s.heap.objs.size ∉ [(s.heap.push (emptySet w)).objs.size, l] := by
          rw [szp]
          intro z
          rcases List.mem_cons.mp z with z | z
          · exact Nat.ne_of_lt (Nat.lt_succ_self _) z
          · rw [List.mem_singleton] at z
            exact Nat.ne_of_gt ltl z
        have val : ∀ (i : Nat) (v : Value), its[i]? = some v → ∃ k t, ns[i]? = some k ∧ v = .int k t := fun i v hv => by
          have hi : i < ns.length := by rw [← sz]; exact (Array.getElem?_eq_some_iff.mp hv).1
          obtain ⟨t, e⟩ := PyProof.Rows.IntsAre.int_at hit i v (by rw [Array.getElem?_toList]; exact hv)
          have e2 : ns.getD i 0 = ns[i] := by rw [List.getD_eq_getElem?_getD, List.getElem?_eq_getElem hi]; rfl
          exact ⟨ns[i], t, List.getElem?_eq_getElem hi, by rw [e, e2]⟩
        refine set_update_ints ((Walks.list noh3 _ l apart its).toS) s.heap.objs.size notfp ns sz few val (its.size - 0) 0 _ (by omega) (Nat.zero_le _)
          ⟨⟨_, Heap.get?_push_size _ rfl, rfl, rfl⟩, (isl.push _)⟩ ⟨0, Nat.le_refl 0, setR_new_at (Heap.get?_push_of_some _ new0)⟩ ?_
        intro s' c' mv lec R'
        obtain ⟨h', g', d', tk', os'⟩ := s'
        have eg : g' = s.gens := mv.gens
        have ed : d' = s.drawn := mv.drawn
        have eo : os' = s.os := mv.os
        subst eg; subst ed; subst eo
        show wpAny _ _ _ _ _ _
        refine wpAny_pure ?_
        show wpAny _ _ (ret Value.none) _ _ _
        rw [sz] at lec
        refine wpAny_pure ⟨rfl, h', tk', c', rfl, R', lec, fun b o e => ?_⟩
        have lb : b < s.heap.objs.size := Heap.lt_size e
        refine mv.heap b o (fun z => ?_) (Heap.get?_push_of_some _ (Heap.get?_push_of_some _ e))
        rcases List.mem_cons.mp z with z | z
        · exact Nat.ne_of_lt lb z
        · rw [List.mem_singleton] at z
          rw [szp] at z
          exact Nat.ne_of_lt (Nat.lt_succ_of_lt lb) z
      · cases r2 with
        | error e => exact h2
        | ok f2 =>
          cases f2 with
          | ret r =>
            obtain ⟨rfl, h', tk, c', rfl, R', lec, kp⟩ := h2
            repeat (any_goals (first | assumption | wp_step))
            exact h _ _ _ R' lec kp
          | _ => exact h2.elim
    | _ => exact ht.elim
/-- sorted of a set of ints -/
theorem sorted_any {a : Addr} {T : Int → Bool} {n : Nat} {Q : Value → Shared → Prop} (R : SetR w s.heap a T n) (noh : A.handled = none)
    (hQ : ∀ t p (out : List Value) (c : Nat) (ms : List Int), (∀ b o, s.heap.get? b = some o → t.heap.get? b = some o) → t.gens = s.gens → t.os = s.os → s.heap.objs.size ≤ p →
      t.heap.get? p = some (seqObj "list" out.toArray c) → IntsAre out ms → ms.Pairwise (· < ·) → (∀ k, k ∈ ms ↔ T k = true) → ms.length = n → Q (.ref p) t) :
    wpAny (model P w) A (call (.builtin "sorted") [.ref a]) Q E s := by
  obtain ⟨o, es, ep, t0, ho, hex, hd, g, nd, hm, hb, hf, hn, hr, hl⟩ := R
  refine Calls.call_function_entry kind_sorted plain_sorted entry_sorted (args_sorted1 _) ?_
  unfold Builtin.«sorted»
  refine wpAny_bind (m := checkCount "sorted" 1 1 _) (wpAny_pure ?_)
  refine wpAny_bind (collect_set (A := A.in1) noh ⟨o, ho, hex.1, hd⟩ hf hb hr hl fun t1 vs kp szl g1 o1 pm => ?_)
  have lv : vs.length = n := by rw [pm.length_eq, List.length_map, Array.length_toList]; exact hn
  have lz : vs.length ≤ sizeLine := by
    rw [lv, sizeLine_eq]
    unfold scanBound at hb
    omega
  have iv : IntsAre vs (vs.map Builtin.Re.reRawOf) := ints_of vs fun v hv => by
    obtain ⟨e, he, q⟩ := List.mem_map.mp (pm.mem_iff.mp hv)
    obtain ⟨k, tk, h1, _⟩ := g e he
    exact ⟨k, tk, by rw [← q]; exact h1⟩
  have pk : (vs.map Builtin.Re.reRawOf).Perm (es.toList.map keyOf) := by
    have q := pm.map Builtin.Re.reRawOf
    rw [List.map_map] at q
    exact q
  refine wpAny_bind (wpAny_newList ?_ lz)
  have at1 : (t1.heap.push (seqObj "list" vs.toArray 0)).get? t1.heap.objs.size = some (seqObj "list" vs.toArray 0) := Heap.get?_push_size _ rfl
  refine wpAny_bind (wpAny_holding (wpAny_call_entry slot_list_sort ⟨_, at1, rfl⟩ entry_list_sort (SrtO.list_sort_ord SrtO.swo_int at1 lz (fun h2 => SrtO.ints_sortable iv h2) fun out s1 s2 => ⟨_, rfl, ?_⟩) (args_list_sort _)))
  obtain ⟨a1, a2, a3⟩ := SrtO.ints_out iv s1 s2
  obtain ⟨c, hc⟩ := sortedHeap_at (vs := vs) (out := out.toArray) at1
  have pn : (out.map SrtO.iv).Perm (es.toList.map keyOf) := a2.trans pk
  refine wpAny_pure ⟨_, rfl, hQ _ t1.heap.objs.size out c _ (fun b u e => ?_) g1 o1 szl hc a1 (lt_of_le_nodup _ a3 (pn.nodup_iff.mpr nd)) (fun k => by rw [pn.mem_iff, ← hm k]) ?_⟩
  · have q := kp b u e
    have lt1 := Heap.lt_size q
    show (sortedHeap (t1.heap.push (seqObj "list" vs.toArray 0)) t1.heap.objs.size vs out.toArray).get? b = some u
    rw [sortedHeap_old (Nat.ne_of_lt lt1) (by rw [size_push']; exact Nat.lt_succ_of_lt lt1)]
    exact Heap.get?_push_of_some _ q
  · rw [pn.length_eq, List.length_map, Array.length_toList]; exact hn
end
/-- sorted(set(e)) over the layer -/
def tSSet (K : PySem.W.Frag) (ta : TE) : TE := fun σ H Q => ta σ H fun x H1 => ∃ (l : Addr) (ns : List Int), x = .ref l ∧ (SqL K H1 l (ns.map V.int) ∨ SqT K H1 l (ns.map V.int)) ∧ ns.length ≤ 4000 ∧
  ∀ (ms : List Int) (p : Addr), ms.Pairwise (· < ·) → (∀ k, k ∈ ms ↔ k ∈ ns) → H1 p = none → Q (.ref p) (upd H1 p (.lst (ms.map V.int)))
theorem pe_sset {X : Cx} {a : Expr} {ta : TE} {p p2 q pos : Pos} (hg : Gl X "sorted") (hm : X.mg "sorted" = none) (hg2 : Gl X "set") (hm2 : X.mg "set" = none) (ha : PE X a ta) (hc : X.calm = true)
    (na : starEach [a] X.env = (false, eval a X.env) :: starEach [] X.env) : PE X (.Call (.Name "sorted" p) [.Call (.Name "set" p2) [a] [] q] [] pos) (tSSet X.K ta) := by
  refine ⟨fun pins s σ H Q I h => ?_⟩
  refine Call_ (ld_blt I hg hm boot_sorted ?_)
  refine PyProof.Rows.callWith_builtin1 (PyProof.Rows.args_cons ?_ rfl) rfl rfl
  refine Call_ (ld_blt I hg2 hm2 PyProof.Rows.boot_set ?_)
  refine PyProof.Rows.callWith_type1 (PyProof.Rows.args_cons (thn (ha.run pins s σ H _ I h) fun v s1 ⟨x, H1, I1, r1, q1⟩ => PyProof.Rows.args_nil ?_) na) na rfl
  obtain ⟨l, ns, rfl, hq, hl, q1⟩ := q1
  cases r1
  have noh := I1.ok.hd hc
  have few : ns.length + 1 < scanBound := by unfold scanBound; omega
  have fin : ∀ (h' : Heap) (tk c : Nat), SetR X.w h' s1.heap.objs.size (fun j => decide (j ∈ ns)) c → c ≤ ns.length → (∀ b o, s1.heap.get? b = some o → h'.get? b = some o) →
      wpAny (model X.prog X.w) X.A (call (.builtin "sorted") [.ref s1.heap.objs.size]) (EP X pins σ Q) X.xe { s1 with heap := h', toks := tk } := fun h' tk c R lec kp => by
    refine sorted_any R noh fun t pp out c2 ms k1 g1 o1 hp hgt hi hlt hms hlen => ?_
    have hle : s1.heap.objs.size ≤ pp := Nat.le_trans (Nat.le_of_lt (SetR.lt R)) hp
    have hpn : H1 pp = none := I1.hok.fresh hle
    have hz : (ms.map V.int).length ≤ sizeLine := by rw [List.length_map, hlen, sizeLine_eq]; omega
    have kall : ∀ b u, s1.heap.get? b = some u → t.heap.get? b = some u := fun b u e => k1 b u (kp b u e)
    have J : Inv X pins σ (upd H1 pp (.lst (ms.map V.int))) { s1 with heap := t.heap, gens := t.gens, drawn := t.drawn, toks := t.toks } :=
      I1.call (ch := []) (Un.laid kall hle hpn) (I1.hok.laid kall hle ⟨hz, out, c2, vals_of_ints hi, hgt⟩) (by rw [g1]; exact I1.bare) (fun _ z => nomatch z)
    have e : t = { s1 with heap := t.heap, gens := t.gens, drawn := t.drawn, toks := t.toks } := by
      cases t
      cases s1
      cases o1
      rfl
    rw [e]
    exact ⟨.ref pp, _, J, rfl, q1 ms pp hlt (fun k => by rw [hms, decide_eq_true_eq]) hpn⟩
  rcases hq with hq | hq
  · obtain ⟨its, r, pl, hz⟩ := I1.list hq
    exact set_list ns noh pl.isList (ints_of_vals r) few fun h' tk c R lec kp => PyProof.Rows.args_nil (fin h' tk c R lec kp)
  · obtain ⟨its, r, pl, hz⟩ := I1.tuple hq
    exact call_set_tupI ns noh (show s1.heap.IsTuple l its.toArray from pl) (ints_of_vals r) few fun h' tk c R lec kp => PyProof.Rows.args_nil (fin h' tk c R lec kp)

def ssetD : D → Sto → Q1 → Prop
  | .tup ds, S, Q => ∃ ns : List Int, ds = ns.map .int ∧ ns.length ≤ 4000 ∧ ∀ ms : List Int, ms.Pairwise (· < ·) → (∀ k, k ∈ ms ↔ k ∈ ns) → Q (.ref S.length) (S ++ [.lst (ms.map .int)])
  | .fro ds, S, Q => ∃ ns : List Int, ds = ns.map .int ∧ ns.length ≤ 4000 ∧ ∀ ms : List Int, ms.Pairwise (· < ·) → (∀ k, k ∈ ms ↔ k ∈ ns) → Q (.ref S.length) (S ++ [.lst (ms.map .int)])
  | .ref n, S, Q => ∃ ns : List Int, S[n]? = some (.lst (ns.map .int)) ∧ ns.length ≤ 4000 ∧ ∀ ms : List Int, ms.Pairwise (· < ·) → (∀ k, k ∈ ms ↔ k ∈ ns) → Q (.ref S.length) (S ++ [.lst (ms.map .int)])
  | _, _, _ => False
def wSSet (a : W) : W := fun ρ S Q => a ρ S fun d S1 => ssetD d S1 Q
theorem ssetD_mono {d : D} {S : Sto} {Q Q' : Q1} (h : ∀ d S, Q d S → Q' d S) (q : ssetD d S Q) : ssetD d S Q' := by
  cases d <;> first | exact q.elim | exact let ⟨ns, a, b, c⟩ := q; ⟨ns, a, b, fun ms h1 h2 => h _ _ (c ms h1 h2)⟩
theorem RepVs.ints {K : PySem.W.Frag} {H : Hp} {ι : List Addr} : ∀ {ns : List Int} {xs : List V}, RepVs K H ι (ns.map .int) xs → xs = ns.map V.int
  | [], _, h => h
  | n :: ns, _, h => by
    obtain ⟨x, r, rfl, h1, h2⟩ := h
    cases h1
    rw [RepVs.ints h2]
    rfl
theorem RepVs.of_ints {K : PySem.W.Frag} {H : Hp} {ι : List Addr} : ∀ (ns : List Int), RepVs K H ι (ns.map .int) (ns.map V.int)
  | [] => rfl
  | n :: ns => ⟨_, _, rfl, rfl, RepVs.of_ints ns⟩
theorem pw_sset {X : Cx} {a : Expr} {w : W} {p p2 q pos : Pos} (hg : Gl X "sorted") (hm : X.mg "sorted" = none) (hg2 : Gl X "set") (hm2 : X.mg "set" = none) (ha : PEw X a w) (hc : X.calm = true)
    (na : starEach [a] X.env = (false, eval a X.env) :: starEach [] X.env) : PEw X (.Call (.Name "sorted" p) [.Call (.Name "set" p2) [a] [] q] [] pos) (wSSet w) where
  mono := fun ρ S Q Q' h q => ha.mono _ _ _ _ (fun d S1 q1 => ssetD_mono h q1) q
  pe := PE.weak (pe_sset hg hm hg2 hm2 ha.pe hc na) fun σ H Q ⟨ρ, ι, S, E, R, q⟩ => tE_k ha.mono E R q fun d S1 v H1 ι1 T1 R1 r E1 q1 => by
    cases d <;> try exact q1.elim
    · obtain ⟨ns, rfl, hl, q1⟩ := q1
      obtain ⟨a, xs, rfl, hx, rr⟩ := r
      rw [RepVs.ints rr] at hx
      exact ⟨a, ns, rfl, .inr hx, hl, fun ms pp h1 h2 hp => q1 ms h1 h2 _ _ _ (T1.trans (Tr.alloc R1 hp)) (RepS.alloc R1 hp (RepVs.of_ints ms)) (RepV.new R1)⟩
    · obtain ⟨ns, rfl, hl, q1⟩ := q1
      obtain ⟨a, xs, rfl, hx, rr⟩ := r
      rw [RepVs.ints rr] at hx
      exact ⟨a, ns, rfl, .inl hx.sq, hl, fun ms pp h1 h2 hp => q1 ms h1 h2 _ _ _ (T1.trans (Tr.alloc R1 hp)) (RepS.alloc R1 hp (RepVs.of_ints ms)) (RepV.new R1)⟩
    · obtain ⟨ns, e, hl, q1⟩ := q1
      obtain ⟨a, xs, rfl, _, hx, rr⟩ := R1.list r e
      rw [RepVs.ints rr] at hx
      exact ⟨a, ns, rfl, .inl (.inl (.inl hx)), hl, fun ms pp h1 h2 hp => q1 ms h1 h2 _ _ _ (T1.trans (Tr.alloc R1 hp)) (RepS.alloc R1 hp (RepVs.of_ints ms)) (RepV.new R1)⟩
end WW


set_option Elab.async false
set_option linter.all false
set_option maxRecDepth 100000
set_option maxHeartbeats 4000000
set_option autoImplicit false
namespace WW
open PySem PySem.Spec PyProof.Rows L2

/-! ### from the program's syntax to clean readings -/
structure Ct where
  N : List Str
  sc : Scope
  st : Str → Bool
  G : List (Str × Nat × Spec)
  B : List Str
def idxS : List Str → Str → Option Nat
  | [], _ => none
  | y :: r, x => if y = x then some 0 else (idxS r x).map (· + 1)
theorem idxS_get : ∀ {N : List Str} {x : Str} {i : Nat}, idxS N x = some i → N[i]? = some x
  | [], _, _, h => nomatch h
  | y :: r, x, i, h => by
    unfold idxS at h
    split at h
    · rename_i e
      cases h
      subst e
      rfl
    · cases q : idxS r x with
      | none => rw [q] at h; cases h
      | some j =>
        rw [q] at h
        cases h
        have := idxS_get q
        simpa using this
theorem idxS_none : ∀ {N : List Str} {x : Str}, idxS N x = none → x ∉ N
  | [], _, _ => by simp
  | y :: r, x, h => by
    unfold idxS at h
    split at h
    · cases h
    · rename_i e
      cases q : idxS r x with
      | some j => rw [q] at h; cases h
      | none =>
        intro hm
        rcases List.mem_cons.mp hm with z | z
        · exact e z.symm
        · exact idxS_none q z
def isVis : Option NameKind → Bool
  | some .local => true
  | some .cell => true
  | some .free => true
  | _ => false
def isLoc : Option NameKind → Bool
  | some .local => true
  | some .cell => true
  | _ => false
def isGl : Option NameKind → Bool
  | some .globalImplicit => true
  | _ => false
def okName (x : Str) : Bool := !(x == ("__debug__" : Str)) && !(x == ("__classdict__" : Str))
def slot (c : Ct) (x : Str) : Option Nat := if (isVis (c.sc.names.lookup x) && okName x) = true then idxS c.N x else none
def slotS (c : Ct) (x : Str) : Option Nat := if (c.st x && okName x) = true then idxS c.N x else none
def plainX : Expr → Bool
  | .BoolOp .. => true
  | .BinOp .. => true
  | .UnaryOp .. => true
  | .IfExp .. => true
  | .ListComp .. => true
  | .Compare .. => true
  | .Call .. => true
  | .Constant .. => true
  | .Attribute .. => true
  | .Subscript .. => true
  | .Name .. => true
  | .List .. => true
  | .Tuple .. => true
  | _ => false
def isComp : Expr → Bool
  | .ListComp .. => true
  | .SetComp .. => true
  | .DictComp .. => true
  | _ => false
def isTup : Expr → Bool
  | .Tuple .. => true
  | _ => false
/-- a receiver of a method: no super() -/
def attrX : Expr → Bool
  | .Call (.Name _ _) [] [] _ => false
  | e => plainX e
/-- what a test reads by truth alone -/
def truX : Expr → Bool
  | .BinOp .. => true
  | .Call .. => true
  | .Constant .. => true
  | .Attribute .. => true
  | .Subscript .. => true
  | .Name .. => true
  | .ListComp .. => true
  | _ => false
section
variable {env : Env} {e : Expr}
theorem ns_of (es : List Expr) (h : plainX e = true) : starEach (e :: es) env = (false, eval e env) :: starEach es env := by
  cases e <;> first | rfl | exact absurd h Bool.false_ne_true
theorem ix_of (h : plainX e = true) : PlainIx e := by
  cases e <;> first | exact fun _ _ => rfl | exact absurd h Bool.false_ne_true
theorem fs_of (h : plainX e = true) : ∀ x, foldedSetIterable e env x = pure x := by
  cases e <;> first | exact fun _ => rfl | exact absurd h Bool.false_ne_true
theorem bm_of {op : CmpOp} (h : plainX e = true) : behindInMarks op e = false := by
  cases e <;> first | rfl | exact absurd h Bool.false_ne_true
theorem sw_of {t : Option Expr} {l : Nat} (h : isComp e = false) : swapsWith e t l env = pure false := by
  cases e <;> first | rfl | exact absurd h.symm Bool.false_ne_true
theorem ss_of {ts : List Expr} (h : isTup e = false) : swappedStores ts e env = pure none := by
  cases e <;> first
    | exact absurd h.symm Bool.false_ne_true
    | (unfold swappedStores
       cases ts with
       | nil => rfl
       | cons t r => cases r with
         | nil => cases t <;> rfl
         | cons _ _ => cases t <;> rfl)
theorem ab_of {name : Str} {whole : Sem Value} (h : attrX e = true) : attributeBase e name env whole = whole := by
  cases e with
  | Call f as ks p =>
    cases f with
    | Name x q =>
      cases as with
      | nil => cases ks with
        | nil => exact absurd h Bool.false_ne_true
        | cons _ _ => rfl
      | cons _ _ => rfl
    | _ => rfl
  | _ => rfl
theorem tr_of (h : truX e = true) : ∀ whole, isTrue e env whole = (do let v ← whole; standAt e.pos; holding [v] (truthy v)) := by
  cases e <;> first | exact fun _ => rfl | exact absurd h Bool.false_ne_true
end
def plainAll : List Expr → Bool
  | [] => true
  | e :: r => plainX e && plainAll r
theorem back_of {env : Env} {pos : Pos} : ∀ {es : List Expr}, plainAll es = true → (backTo pos (starEach es env)).any (·.1) = false
  | [], _ => rfl
  | e :: r, h => by
    obtain ⟨h1, h2⟩ := Bool.and_eq_true_iff.mp h
    rw [ns_of r h1]
    show (false || (backTo pos (starEach r env)).any (·.1)) = false
    rw [back_of h2]
    rfl
theorem back_all {env : Env} {pos : Pos} : ∀ {es : List Expr}, plainAll es = true → (backTo pos (starEach es env)).all (fun x => !x.1) = true
  | [], _ => rfl
  | e :: r, h => by
    obtain ⟨h1, h2⟩ := Bool.and_eq_true_iff.mp h
    rw [ns_of r h1]
    show (true && (backTo pos (starEach r env)).all (fun x => !x.1)) = true
    rw [back_all h2]
    rfl
theorem few_of {env : Env} {pos : Pos} {es : List Expr} (h : plainAll es = true) (hl : es.length < 30) : ((backTo pos (starEach es env)).all (fun x => !x.1) && (backToKw pos (keywordEach [] env)).all (fun x => x.1.isSome)
      && decide (es.length + ([] : List Keyword).length + (if ([] : List Keyword).isEmpty then 0 else 1) < 30)) = true := by
  rw [back_all h]
  show (true && true && decide (es.length + 0 + 0 < 30)) = true
  simp
  omega
def o2 {α β γ : Type} (f : α → β → γ) : Option α → Option β → Option γ
  | some a, some b => some (f a b)
  | _, _ => none
theorem o2_iff {α β γ : Type} {f : α → β → γ} {a : Option α} {b : Option β} {r : γ} (h : o2 f a b = some r) : ∃ x y, a = some x ∧ b = some y ∧ f x y = r := by
  cases a with
  | none => cases h
  | some x => cases b with
    | none => cases h
    | some y => cases h; exact ⟨x, y, rfl, rfl, rfl⟩
theorem map_iff {α β : Type} {f : α → β} {a : Option α} {r : β} (h : a.map f = some r) : ∃ x, a = some x ∧ f x = r := by
  cases a with
  | none => cases h
  | some x => cases h; exact ⟨x, rfl, rfl⟩
def og {α : Type} (b : Bool) (a : Option α) : Option α := match b with
  | true => a
  | false => none
theorem og_iff {α : Type} {b : Bool} {a : Option α} {r : α} (h : og b a = some r) : b = true ∧ a = some r := by
  cases b with
  | true => exact ⟨rfl, h⟩
  | false => cases h
def cstD : Const → Option D
  | .none => some .non
  | .bool b => some (.bl b)
  | .int i => some (.int i)
  | .str s => some (.str s)
  | _ => none
/-- what is built in: a builtin | a type -/
def bltOf (x : Str) : Option ((Bool × String) × CalD) :=
  if x = "len" then some ((false, "len"), lenC)
  else if x = "list" then some ((true, "list"), listC)
  else if x = "tuple" then some ((true, "tuple"), tupleC)
  else if x = "int" then some ((true, "int"), intC)
  else none
/-- methods with one argument | without -/
def metOf1 (m : Str) : Option MetD := if m = "append" then some appM else if m = "extend" then some extM else none
def metOf0 (m : Str) : Option MetD := if m = "pop" then some popM else none
def ownOf (N : List Str) : List (Str × NameKind) → List (Str × Nat)
  | [] => []
  | y :: r => if isLoc (some y.2) = true then (match idxS N y.1 with | some i => (y.1, i) :: ownOf N r | none => ownOf N r) else ownOf N r
def isFree : NameKind → Bool
  | .free => true
  | _ => false
def isFn : ScopeKind → Bool
  | .function => true
  | _ => false
def blkChk (sc scope : Scope) : Bool := isFn scope.kind && scope.names.all (fun y => decide (scope.names.lookup y.1 = some y.2)) && scope.names.all fun y => !isFree y.2 || decide (sc.names.lookup y.1 = some .cell) || decide (sc.names.lookup y.1 = some .free)
theorem ownOf_ix {N : List Str} : ∀ {ns : List (Str × NameKind)}, ∀ p ∈ ownOf N ns, N[p.2]? = some p.1
  | [], p, h => nomatch h
  | y :: r, p, h => by
    unfold ownOf at h
    split at h
    · split at h
      · rename_i i e
        rcases List.mem_cons.mp h with z | z
        · subst z
          exact idxS_get e
        · exact ownOf_ix p z
      · exact ownOf_ix p h
    · exact ownOf_ix p h
theorem ownOf_mem {N : List Str} : ∀ {ns : List (Str × NameKind)}, ∀ y ∈ ns, y.2 = .local ∨ y.2 = .cell → y.1 ∈ (ownOf N ns).map (·.1) ∨ y.1 ∉ N
  | [], y, h, _ => nomatch h
  | z :: r, y, h, k => by
    unfold ownOf
    rcases List.mem_cons.mp h with e | e
    · subst e
      have hl : isLoc (some y.2) = true := by rcases k with k | k <;> rw [k] <;> rfl
      rw [if_pos hl]
      split
      · left
        exact List.mem_map.mpr ⟨_, List.mem_cons_self, rfl⟩
      · rename_i q
        exact .inr (idxS_none q)
    · rcases ownOf_mem y e k with q | q
      · left
        split
        · split
          · rw [List.map_cons]
            exact List.mem_cons_of_mem _ q
          · exact q
        · exact q
      · exact .inr q
theorem blk_of {N : List Str} {sc scope : Scope} (h : blkChk sc scope = true) : BlkOk N sc scope (ownOf N scope.names) := by
  unfold blkChk at h
  rw [Bool.and_eq_true_iff, Bool.and_eq_true_iff] at h
  obtain ⟨⟨h1, h2⟩, h3⟩ := h
  refine ⟨?_, fun y hy => of_decide_eq_true (List.all_eq_true.mp h2 y hy), ownOf_ix, fun y hy e => ?_, ownOf_mem⟩
  · revert h1
    cases scope.kind <;> simp [isFn]
  · have := List.all_eq_true.mp h3 y hy
    rw [e] at this
    simpa [isFree] using this
def relSt (scope rs : Scope) (x : Str) : Bool := match rs.names.lookup x with
  | some .local => true
  | some .cell => decide (scope.names.lookup x = some .cell)
  | _ => false
def slotsS (c : Ct) : List Expr → Option (List Nat)
  | [] => some []
  | .Name x _ :: r => o2 (fun i is => i :: is) (slotS c x) (slotsS c r)
  | _ :: _ => none
def trP (c : Ct) : Expr → Option Pat
  | .Name x _ => (slotS c x).map .nm
  | .Tuple es _ _ => (slotsS c es).map .tp
  | _ => none
def Ct.blk (c : Ct) (scope : Scope) : Ct := { c with sc := relS scope c.sc, st := relSt scope (relS scope c.sc) }
mutual
def trE (c : Ct) : Nat → Expr → Option W
  | 0, _ => none
  | n + 1, e => match e with
    | .Name x _ => (slot c x).map wVar
    | .Constant k _ _ => (cstD k).map wCst
    | .BinOp a op b _ => o2 (wOp (opD op)) (trE c n a) (trE c n b)
    | .UnaryOp .USub a _ => (trE c n a).map wNeg
    | .UnaryOp .Not a _ => (trE c n a).map wNotV
    | .BoolOp _ [a] _ => trE c n a
    | .BoolOp .And (a :: b :: r) pos => o2 wAndV (trE c n a) (trE c n (.BoolOp .And (b :: r) pos))
    | .BoolOp .Or (a :: b :: r) pos => o2 wOrV (trE c n a) (trE c n (.BoolOp .Or (b :: r) pos))
    | .IfExp t a b _ => o2 (fun t ab => wIf t ab.1 ab.2) (trT c n t) (o2 Prod.mk (trE c n a) (trE c n b))
    | .Compare a [op] [b] _ => og (plainX b) (o2 (wOp (cmpD op)) (trE c n a) (trE c n b))
    | .Compare a [op, op'] [b, d] _ => og (plainX d) (o2 (fun a bd => wChain (cmpD op) (cmpD op') a bd.1 bd.2) (trE c n a) (o2 Prod.mk (trE c n b) (trE c n d)))
    | .Tuple es _ _ => (trA c n es).map wTup
    | .List es _ => (trA c n es).map wLst
    | .Subscript a (.Slice lo hi none _) _ => o2 (fun a lh => wSlc a lh.1 lh.2) (trE c n a) (o2 Prod.mk (trO c n lo) (trO c n hi))
    | .Subscript a b _ => og (plainX b) (o2 (wOp idxD) (trE c n a) (trE c n b))
    | .Call (.Name x _) (a :: es) [] _ => og (isGl (c.sc.names.lookup x) && okName x && plainAll (a :: es)) (match c.G.lookup x with
      | some (m, sp) => (trA c n (a :: es)).map (wCall m sp)
      | none => match bltOf x with
        | some (_, o) => og (decide (x ∈ c.B)) ((trA c n (a :: es)).map (wBlt o))
        | none => match x == "sorted", a, es with
          | true, .Call (.Name y _) [b] [] _, [] => og (decide (x ∈ c.B) && (y == "set") && decide (y ∈ c.B) && isGl (c.sc.names.lookup y) && plainX b) ((trE c n b).map wSSet)
          | _, _, _ => none)
    | .Call (.Attribute o m apos) [a] [] pos => og ((apos.endLine == pos.line) && attrX o && plainX a) (match metOf1 m with
      | some d => o2 (wMet lstTy d) (trE c n o) (trA c n [a])
      | none => none)
    | .Call (.Attribute o m apos) [] [] pos => og ((apos.endLine == pos.line) && attrX o) (if m = "bit_length" then (trE c n o).map wBits else match metOf0 m with
      | some d => (trE c n o).map fun w => wMet lstTy d w wNil
      | none => none)
    | .ListComp elt [⟨tg, it, ifs, 0⟩] scope _ => og (blkChk c.sc scope && plainX it) (match trP (c.blk scope) tg with
      | some p => og (p.vs.all fun i => decide (i ∈ (ownOf c.N scope.names).map (·.2))) (o2 (fun wi te => wLc wi p te.1 te.2 ((ownOf c.N scope.names).map (·.2))) (trI c n tg it) (o2 Prod.mk (trC (c.blk scope) n ifs) (trE (c.blk scope) n elt)))
      | none => none)
    | _ => none
def trT (c : Ct) : Nat → Expr → Option WT
  | 0, _ => none
  | n + 1, e => match e with
    | .UnaryOp .Not a _ => (trT c n a).map wNotB
    | .BoolOp op vs pos => trB c n (.BoolOp op vs pos)
    | .Compare a [op] [b] _ => og (plainX b) (o2 (fun a b => wTsB (wOp (cmpD op) a b)) (trE c n a) (trE c n b))
    | .Compare a [op, op'] [b, d] _ => og (plainX d) (o2 (fun a bd => wTsB (wChain (cmpD op) (cmpD op') a bd.1 bd.2)) (trE c n a) (o2 Prod.mk (trE c n b) (trE c n d)))
    | e => og (truX e) ((trE c n e).map wTst)
def trB (c : Ct) : Nat → Expr → Option WT
  | 0, _ => none
  | n + 1, e => match e with
    | .BoolOp _ [a] _ => trT c n a
    | .BoolOp .And (a :: b :: r) pos => o2 wAndB (trT c n a) (trB c n (.BoolOp .And (b :: r) pos))
    | .BoolOp .Or (a :: b :: r) pos => o2 wOrB (trT c n a) (trB c n (.BoolOp .Or (b :: r) pos))
    | _ => none
def trA (c : Ct) : Nat → List Expr → Option WA
  | 0, _ => none
  | n + 1, es => match es with
    | [] => some wNil
    | e :: r => og (plainX e) (o2 wCons (trE c n e) (trA c n r))
def trO (c : Ct) : Nat → Option Expr → Option WO
  | 0, _ => none
  | n + 1, o => match o with
    | none => some wNoP
    | some e => (trE c n e).map wPart
def trC (c : Ct) : Nat → List Expr → Option WT
  | 0, _ => none
  | n + 1, ifs => match ifs with
    | [] => some wYes
    | [e] => trT c n e
    | _ => none
def trI (c : Ct) : Nat → Expr → Expr → Option WI
  | 0, _, _ => none
  | n + 1, tg, e => match e with
    | .Call (.Name x p) as [] pos =>
      if x = "range" then og (isGl (c.sc.names.lookup x) && decide (x ∈ c.B) && plainAll as && (decide (as.length = 1) || decide (as.length = 2) || decide (as.length = 3))) ((trA c n as).map wRng)
      else if x = "enumerate" then og (isGl (c.sc.names.lookup x) && decide (x ∈ c.B) && plainAll as && decide (as.length = 1) && isTup tg) ((trA c n as).map wEnum)
      else (trE c n (.Call (.Name x p) as [] pos)).map wSeqI
    | e => (trE c n e).map wSeqI
end
end WW


set_option Elab.async false
set_option linter.all false
set_option maxRecDepth 100000
set_option maxHeartbeats 4000000
set_option autoImplicit false
namespace WW
open PySem PySem.Spec PyProof.Rows L2

/-- the machine's context is the one that the translation knows -/
structure CtOk (c : Ct) (X : Cx) : Prop where
  hN : X.N = c.N
  nd : c.N.Nodup
  hsc : X.env.scope = c.sc
  calm : X.calm = true
  xe : X.xe = fun _ _ => False
  st : ∀ x, c.st x = true → L2.Loc X.env.scope x ∧ (X.fn x = true ∨ X.env.scope.names.lookup x = some .local)
  G : ∀ x m sp, c.G.lookup x = some (m, sp) → ∃ k f fd ps, FnOk X.prog X.w X.K X.mg X.base CX0 k f fd ps (spOf X.K m sp) ∧ Room k X.A ∧ X.mg x = some (.ref f) ∧ PySem.W.keepIn X.K (.ref f) = true ∧ Binds X.K fd ps []
  B : ∀ x ∈ c.B, X.mg x = none
  hu : X.A.units + 64 < cLine
section
variable {c : Ct} {X : Cx}
theorem CtOk.pp (O : CtOk c X) : PassesOwn (model X.prog X.w) X.A X.env X.xe := by rw [O.xe]; exact PassesOwn.never
theorem CtOk.slot (O : CtOk c X) {x : Str} {i : Nat} (h : slot c x = some i) : X.N[i]? = some x ∧ Vis X.env.scope x ∧ (x == ("__debug__" : Str)) = false ∧ (x == ("__classdict__" : Str)) = false := by
  unfold WW.slot at h
  split at h
  · rename_i q
    rw [Bool.and_eq_true_iff] at q
    obtain ⟨q1, q2⟩ := q
    unfold okName at q2
    rw [Bool.and_eq_true_iff] at q2
    refine ⟨by rw [O.hN]; exact idxS_get h, ?_, by simpa using q2.1, by simpa using q2.2⟩
    rw [O.hsc]
    unfold Vis
    revert q1
    cases c.sc.names.lookup x with
    | none => intro z; cases z
    | some k => cases k <;> simp [isVis]
  · cases h
theorem CtOk.slotS (O : CtOk c X) {x : Str} {i : Nat} (h : slotS c x = some i) : X.N[i]? = some x ∧ L2.Loc X.env.scope x ∧ (X.fn x = true ∨ X.env.scope.names.lookup x = some .local) := by
  unfold WW.slotS at h
  split at h
  · rename_i q
    rw [Bool.and_eq_true_iff] at q
    obtain ⟨q1, q2⟩ := O.st x q.1
    exact ⟨by rw [O.hN]; exact idxS_get h, q1, q2⟩
  · cases h
theorem CtOk.gl (O : CtOk c X) {x : Str} (h : isGl (c.sc.names.lookup x) = true) : Gl X x := by
  show X.env.scope.names.lookup x = some .globalImplicit
  rw [O.hsc]
  revert h
  cases c.sc.names.lookup x with
  | none => intro z; cases z
  | some k => cases k <;> simp [isGl]
theorem okName_of {x : Str} (h : okName x = true) : (x == ("__debug__" : Str)) = false := by
  unfold okName at h
  rw [Bool.and_eq_true_iff] at h
  simpa using h.1
theorem CtOk.cN (O : CtOk c X) : X.N.Nodup := by rw [O.hN]; exact O.nd
/-- the context of a comprehension's block -/
theorem CtOk.blk (O : CtOk c X) (scope : Scope) (s : Shared) (H : Hp) (C : Addr) (cl : List (Str × Addr)) (fp : List Addr) : CtOk (c.blk scope) (X.blk s H scope (compEnvC scope cl C X.env) fp) where
  hN := O.hN
  nd := O.nd
  hsc := by
    show relS scope X.env.scope = relS scope c.sc
    rw [O.hsc]
  calm := O.calm
  xe := rfl
  st := fun x h => by
    have h : relSt scope (relS scope c.sc) x = true := h
    show L2.Loc (relS scope X.env.scope) x ∧ ((scope.names.lookup x == some .cell) = true ∨ (relS scope X.env.scope).names.lookup x = some .local)
    rw [O.hsc]
    unfold relSt at h
    unfold L2.Loc
    split at h
    · rename_i e
      exact ⟨.inl e, .inr e⟩
    · rename_i e
      refine ⟨.inr e, .inl ?_⟩
      rw [of_decide_eq_true h]
      rfl
    · cases h
  G := O.G
  B := O.B
  hu := O.hu
theorem CtOk.pg1 (O : CtOk c X) {x : Str} {i : Nat} {pos : Pos} (h : WW.slotS c x = some i) : PG X (.Name x pos) (gName i) :=
  let ⟨h1, h2, h3⟩ := O.slotS h
  pg_name O.cN h1 h2 h3
theorem CtOk.pgs (O : CtOk c X) : ∀ {es : List Expr} {is : List Nat}, slotsS c es = some is → PGs X es (gNames is) ∧ (assignEach es X.env).length = is.length ∧ (assignEach es X.env).findIdx? (·.1) = none
  | [], _, h => by
    cases h
    exact ⟨pgs_nil, rfl, rfl⟩
  | e :: r, is, h => by
    cases e with
    | Name x p =>
      obtain ⟨i, js, h1, h2, rfl⟩ := o2_iff h
      obtain ⟨g1, g2, g3⟩ := O.pgs h2
      refine ⟨pgs_cons (O.pg1 h1) g1, ?_, ?_⟩
      · show (assignEach r X.env).length + 1 = js.length + 1
        rw [g2]
      · show List.findIdx? (·.1) ((false, assign (.Name x p) X.env) :: assignEach r X.env) = none
        rw [List.findIdx?_cons]
        simp [g3]
    | _ => exact nomatch h
theorem CtOk.pg (O : CtOk c X) {tg : Expr} {p : Pat} (h : trP c tg = some p) : PG X tg (gP X.K p) := by
  cases tg with
  | Name x pos =>
    obtain ⟨i, h1, rfl⟩ := map_iff h
    exact O.pg1 h1
  | Tuple es k pos =>
    obtain ⟨is, h1, rfl⟩ := map_iff h
    obtain ⟨g1, g2, g3⟩ := O.pgs h1
    exact pg_tup O.calm g1 g2 g3
  | _ => exact nomatch h
theorem blt_B {x : Str} {id : String} {o : CalD} (h : bltOf x = some ((false, id), o)) : CalS X (.builtin id) o ∧ bootBuiltins x = some (.builtin id) ∧ x ≠ "__name__" := by
  unfold bltOf at h
  split at h
  · rename_i e; cases h; subst e; exact ⟨lenC_S, by decide +kernel, by decide⟩
  split at h
  · cases h
  split at h
  · cases h
  split at h
  · cases h
  · cases h
theorem blt_T {x : Str} {id : String} {o : CalD} (h : bltOf x = some ((true, id), o)) : CalS X (.type id) o ∧ bootBuiltins x = some (.type id) ∧ x ≠ "__name__" := by
  unfold bltOf at h
  split at h
  · cases h
  split at h
  · rename_i e; cases h; subst e; exact ⟨listC_S, by decide +kernel, by decide⟩
  split at h
  · rename_i e; cases h; subst e; exact ⟨tupleC_S, by decide +kernel, by decide⟩
  split at h
  · rename_i e; cases h; subst e; exact ⟨intC_S, by decide +kernel, by decide⟩
  · cases h
def LenA (k : Nat) (w : WA) : Prop := ∀ ρ S Q, w ρ S Q → w ρ S fun ds S' => ds.length = k ∧ Q ds S'
/-- what the translation of a comprehension hands on -/
structure LcOk (X : Cx) (elt tg iter : Expr) (ifs : List Expr) (scope : Scope) (wi : WI) (p : Pat) (t : WT) (e : W) (own : List (Str × Nat)) : Prop where
  hi : PIw X tg iter wi
  ok : BlkOk X.N X.env.scope scope own
  mt : MonoT t
  me : MonoW e
  hp : ∀ i ∈ p.vs, i ∈ own.map (·.2)
  hg : ∀ (s : Shared) (H : Hp) (C : Addr) (cl : List (Str × Addr)) (fp : List Addr), PG (X.blk s H scope (compEnvC scope cl C X.env) fp) tg (gP X.K p)
  ht : ∀ (s : Shared) (H : Hp) (C : Addr) (cl : List (Str × Addr)) (fp : List Addr), PTs (X.blk s H scope (compEnvC scope cl C X.env) fp) ifs (tT X.K t)
  he : ∀ (s : Shared) (H : Hp) (C : Addr) (cl : List (Str × Addr)) (fp : List Addr), PE (X.blk s H scope (compEnvC scope cl C X.env) fp) elt (tE X.K e)
  pl : plainX iter = true
structure Snd (n : Nat) : Prop where
  E : ∀ c X e w, CtOk c X → trE c n e = some w → PEw X e w
  T : ∀ c X e w, CtOk c X → trT c n e = some w → PTw X e w
  W : ∀ c X e w, CtOk c X → trB c n e = some w → PWw X e w
  A : ∀ c X es w, CtOk c X → trA c n es = some w → PAw X es w ∧ LenA es.length w
  O : ∀ c X o w, CtOk c X → trO c n o = some w → POw X o w
  C : ∀ c X ifs w, CtOk c X → trC c n ifs = some w → PTsw X ifs w
  I : ∀ c X tg e w, CtOk c X → trI c n tg e = some w → PIw X tg e w
theorem PWw.pt {e : Expr} {w : WT} (h : PWw X e w) : PTw X e w := ⟨h.mono, h.pe.pt⟩
theorem snd_lc {n : Nat} (S : Snd n) (O : CtOk c X) {elt tg it : Expr} {ifs : List Expr} {scope : Scope} {w : W}
    (h : og (blkChk c.sc scope && plainX it) (match trP (c.blk scope) tg with
      | some p => og (p.vs.all fun i => decide (i ∈ (ownOf c.N scope.names).map (·.2))) (o2 (fun wi te => wLc wi p te.1 te.2 ((ownOf c.N scope.names).map (·.2))) (trI c n tg it) (o2 Prod.mk (trC (c.blk scope) n ifs) (trE (c.blk scope) n elt)))
      | none => none) = some w) : ∃ wi p t e, LcOk X elt tg it ifs scope wi p t e (ownOf c.N scope.names) ∧ w = wLc wi p t e ((ownOf c.N scope.names).map (·.2)) := by
  obtain ⟨h1, h2⟩ := og_iff h
  obtain ⟨h0, h1⟩ := Bool.and_eq_true_iff.mp h1
  split at h2
  · rename_i p hp
    obtain ⟨h3, h4⟩ := og_iff h2
    obtain ⟨wi, te, h5, h6, rfl⟩ := o2_iff h4
    obtain ⟨t, e, h7, h8, rfl⟩ := o2_iff h6
    -- any block will do for what is monotone
    have Z := fun (s : Shared) (H : Hp) (C : Addr) (cl : List (Str × Addr)) (fp : List Addr) => O.blk scope s H C cl fp
    refine ⟨wi, p, t, e, ⟨S.I c X tg it wi O h5, ?_, ?_, ?_, fun i hi => of_decide_eq_true (List.all_eq_true.mp h3 i hi), fun s H C cl fp => (Z s H C cl fp).pg hp, fun s H C cl fp => (S.C _ _ _ _ (Z s H C cl fp) h7).pe, fun s H C cl fp => (S.E _ _ _ _ (Z s H C cl fp) h8).pe, h1⟩, rfl⟩
    · rw [O.hN, O.hsc]
      exact blk_of h0
    · exact (S.C _ _ _ _ (Z X.s_0 X.H_0 0 [] []) h7).mono
    · exact (S.E _ _ _ _ (Z X.s_0 X.H_0 0 [] []) h8).mono
  · cases h2
theorem snd_E {n : Nat} (S : Snd n) : ∀ c X e w, CtOk c X → trE c (n + 1) e = some w → PEw X e w := by
  intro c X e w O h
  unfold trE at h
  split at h
  · obtain ⟨i, h1, rfl⟩ := map_iff h
    obtain ⟨a, b, d, e⟩ := O.slot h1
    exact pw_var a b d e
  · rename_i k _ _
    obtain ⟨d, h1, rfl⟩ := map_iff h
    cases k <;> cases h1
    · exact pw_cst pe_non fun _ _ => rfl
    · exact pw_cst pe_bl fun _ _ => rfl
    · exact pw_cst pe_int fun _ _ => rfl
    · exact pw_cst pe_str fun _ _ => rfl
  · obtain ⟨a, b, h1, h2, rfl⟩ := o2_iff h
    exact pw_bin (S.E _ _ _ _ O h1) (S.E _ _ _ _ O h2)
  · obtain ⟨a, h1, rfl⟩ := map_iff h
    exact pw_neg (S.E _ _ _ _ O h1)
  · obtain ⟨a, h1, rfl⟩ := map_iff h
    exact pw_notV (S.E _ _ _ _ O h1)
  · exact pw_one (S.E _ _ _ _ O h)
  · obtain ⟨a, b, h1, h2, rfl⟩ := o2_iff h
    exact pw_andV (S.E _ _ _ _ O h1) (S.E _ _ _ _ O h2)
  · obtain ⟨a, b, h1, h2, rfl⟩ := o2_iff h
    exact pw_orV (S.E _ _ _ _ O h1) (S.E _ _ _ _ O h2)
  · obtain ⟨t, ab, h1, h2, rfl⟩ := o2_iff h
    obtain ⟨a, b, h3, h4, rfl⟩ := o2_iff h2
    exact pw_if (S.T _ _ _ _ O h1) (S.E _ _ _ _ O h3) (S.E _ _ _ _ O h4)
  · obtain ⟨g, h⟩ := og_iff h
    obtain ⟨a, b, h1, h2, rfl⟩ := o2_iff h
    exact pw_cmp O.hu (S.E _ _ _ _ O h1) (S.E _ _ _ _ O h2) (bm_of g)
  · obtain ⟨g, h⟩ := og_iff h
    obtain ⟨a, bd, h1, h2, rfl⟩ := o2_iff h
    obtain ⟨b, d, h3, h4, rfl⟩ := o2_iff h2
    exact pw_chain O.hu (S.E _ _ _ _ O h1) (S.E _ _ _ _ O h3) (S.E _ _ _ _ O h4) (bm_of g)
  · obtain ⟨a, h1, rfl⟩ := map_iff h
    exact pw_tup (S.A _ _ _ _ O h1).1
  · obtain ⟨a, h1, rfl⟩ := map_iff h
    exact pw_lst (S.A _ _ _ _ O h1).1
  · obtain ⟨a, lh, h1, h2, rfl⟩ := o2_iff h
    obtain ⟨b, d, h3, h4, rfl⟩ := o2_iff h2
    exact pw_slc (S.E _ _ _ _ O h1) (S.O _ _ _ _ O h3) (S.O _ _ _ _ O h4)
  · obtain ⟨g, h⟩ := og_iff h
    obtain ⟨a, b, h1, h2, rfl⟩ := o2_iff h
    exact pw_idx (S.E _ _ _ _ O h1) (S.E _ _ _ _ O h2) (ix_of g)
  · rename_i x p a es pos
    obtain ⟨g, h⟩ := og_iff h
    rw [Bool.and_eq_true_iff, Bool.and_eq_true_iff] at g
    obtain ⟨⟨g1, g2⟩, g3⟩ := g
    obtain ⟨g4, g5⟩ := Bool.and_eq_true_iff.mp g3
    split at h
    · rename_i m sp hG
      obtain ⟨wr, h1, rfl⟩ := map_iff h
      obtain ⟨k, f, fd, ps, F, hr, hm, hk, hb⟩ := O.G x m sp hG
      exact pw_call F hr (O.gl g1) hm hk hb (S.A _ _ _ _ O h1).1 (okName_of g2) (ns_of es g4) (back_of g5)
    · split at h
      · rename_i ti o hb
        obtain ⟨q, h⟩ := og_iff h
        obtain ⟨wr, h1, rfl⟩ := map_iff h
        obtain ⟨t, id⟩ := ti
        cases t with
        | false =>
          obtain ⟨b1, b2, b3⟩ := blt_B (X := X) hb
          exact pw_bltB b1 (O.gl g1) (O.B x (of_decide_eq_true q)) b2 (S.A _ _ _ _ O h1).1 b3 (okName_of g2) (ns_of es g4) (back_of g5)
        | true =>
          obtain ⟨b1, b2, b3⟩ := blt_T (X := X) hb
          exact pw_bltT b1 (O.gl g1) (O.B x (of_decide_eq_true q)) b2 (S.A _ _ _ _ O h1).1 b3 (okName_of g2) (ns_of es g4) (back_of g5)
      · split at h
        · rename (x == _) = true => hx
          have hx := eq_of_beq hx
          subst hx
          obtain ⟨q, h⟩ := og_iff h
          obtain ⟨wr, h1, rfl⟩ := map_iff h
          rw [Bool.and_eq_true_iff, Bool.and_eq_true_iff, Bool.and_eq_true_iff, Bool.and_eq_true_iff] at q
          obtain ⟨⟨⟨⟨q1, q2⟩, q3⟩, q4⟩, q5⟩ := q
          have hy := eq_of_beq q2
          subst hy
          exact pw_sset (O.gl g1) (O.B _ (of_decide_eq_true q1)) (O.gl q4) (O.B _ (of_decide_eq_true q3)) (S.E _ _ _ _ O h1) O.calm (ns_of [] q5)
        · cases h
  · rename_i o m apos a pos
    obtain ⟨g, h⟩ := og_iff h
    rw [Bool.and_eq_true_iff, Bool.and_eq_true_iff] at g
    obtain ⟨⟨g1, g2⟩, g3⟩ := g
    have pa : plainAll [a] = true := by
      show (plainX a && true) = true
      rw [g3]; rfl
    split at h
    · rename_i d hd
      obtain ⟨wo, wr, h1, h2, rfl⟩ := o2_iff h
      unfold metOf1 at hd
      split at hd
      · rename_i e
        cases hd
        subst e
        exact pw_met appM_S PySem.F.plainAttrs_list PySem.F.slot_list_append PySem.F.type_list_append (S.E _ _ _ _ O h1) (S.A _ _ _ _ O h2).1 (ab_of g2) (few_of pa (show 1 < 30 by decide)) g1 (ns_of [] g3) rfl
      split at hd
      · rename_i e
        cases hd
        subst e
        exact pw_met extM_S PySem.F.plainAttrs_list PySem.F.slot_list_extend PySem.F.type_list_extend (S.E _ _ _ _ O h1) (S.A _ _ _ _ O h2).1 (ab_of g2) (few_of pa (show 1 < 30 by decide)) g1 (ns_of [] g3) rfl
      · cases hd
    · cases h
  · rename_i o m apos pos
    obtain ⟨g, h'⟩ := og_iff h
    clear h
    obtain ⟨g1, g2⟩ := Bool.and_eq_true_iff.mp g
    split at h'
    · rename_i e
      subst e
      obtain ⟨wo, h1, rfl⟩ := map_iff h'
      exact pw_bits (S.E _ _ _ _ O h1) (ab_of g2) g1
    · split at h'
      · rename_i d hd
        obtain ⟨wo, h1, rfl⟩ := map_iff h'
        unfold metOf0 at hd
        split at hd
        · rename_i e
          cases hd
          subst e
          exact pw_met0 popM_S PySem.F.plainAttrs_list PySem.F.slot_list_pop PySem.F.type_list_pop (S.E _ _ _ _ O h1) (ab_of g2) g1
        · cases hd
      · cases h'
  · obtain ⟨wi, p, t, e, L, rfl⟩ := snd_lc S O h
    exact pw_lc O.calm O.cN L.hi L.ok L.mt L.me L.hp L.hg L.ht L.he (fs_of L.pl)
  · cases h
theorem snd_T {n : Nat} (S : Snd n) : ∀ c X e w, CtOk c X → trT c (n + 1) e = some w → PTw X e w := by
  intro c X e w O h
  unfold trT at h
  split at h
  · obtain ⟨a, h1, rfl⟩ := map_iff h
    exact pw_notT (S.T _ _ _ _ O h1)
  · exact (S.W _ _ _ _ O h).pt
  · obtain ⟨g, h⟩ := og_iff h
    obtain ⟨a, b, h1, h2, rfl⟩ := o2_iff h
    exact pw_cmpT O.hu (S.E _ _ _ _ O h1) (S.E _ _ _ _ O h2) (bm_of g)
  · obtain ⟨g, h⟩ := og_iff h
    obtain ⟨a, bd, h1, h2, rfl⟩ := o2_iff h
    obtain ⟨b, d, h3, h4, rfl⟩ := o2_iff h2
    exact pw_chainT O.hu (S.E _ _ _ _ O h1) (S.E _ _ _ _ O h3) (S.E _ _ _ _ O h4) (bm_of g)
  · obtain ⟨g, h⟩ := og_iff h
    obtain ⟨a, h1, rfl⟩ := map_iff h
    exact pw_truth (S.E _ _ _ _ O h1) (tr_of g)
theorem snd_W {n : Nat} (S : Snd n) : ∀ c X e w, CtOk c X → trB c (n + 1) e = some w → PWw X e w := by
  intro c X e w O h
  unfold trB at h
  split at h
  · rename_i op a pos
    cases op with
    | And => exact pw_and1T (S.T _ _ _ _ O h)
    | Or => exact pw_or1T (S.T _ _ _ _ O h)
  · obtain ⟨a, b, h1, h2, rfl⟩ := o2_iff h
    exact pw_andT (S.T _ _ _ _ O h1) (S.W _ _ _ _ O h2)
  · obtain ⟨a, b, h1, h2, rfl⟩ := o2_iff h
    exact pw_orT (S.T _ _ _ _ O h1) (S.W _ _ _ _ O h2)
  · cases h
theorem snd_A {n : Nat} (S : Snd n) : ∀ c X es w, CtOk c X → trA c (n + 1) es = some w → PAw X es w ∧ LenA es.length w := by
  intro c X es w O h
  unfold trA at h
  split at h
  · cases h
    exact ⟨pw_nil, fun ρ S Q q => ⟨rfl, q⟩⟩
  · rename_i e r
    obtain ⟨g, h⟩ := og_iff h
    obtain ⟨a, b, h1, h2, rfl⟩ := o2_iff h
    have E1 := S.E _ _ _ _ O h1
    obtain ⟨A1, L1⟩ := S.A _ _ _ _ O h2
    refine ⟨pw_cons E1 A1 (ns_of r g), fun ρ S Q q => E1.mono _ _ _ _ (fun x S1 q1 => ?_) q⟩
    exact A1.mono _ _ _ _ (fun ds S2 q2 => ⟨by rw [List.length_cons, List.length_cons, q2.1], q2.2⟩) (L1 _ _ _ q1)
theorem snd_O {n : Nat} (S : Snd n) : ∀ c X o w, CtOk c X → trO c (n + 1) o = some w → POw X o w := by
  intro c X o w O h
  unfold trO at h
  split at h
  · cases h
    exact pw_oNone
  · obtain ⟨a, h1, rfl⟩ := map_iff h
    exact pw_oSome (S.E _ _ _ _ O h1)
theorem snd_C {n : Nat} (S : Snd n) : ∀ c X o w, CtOk c X → trC c (n + 1) o = some w → PTsw X o w := by
  intro c X o w O h
  unfold trC at h
  split at h
  · cases h
    exact pw_ifs0
  · exact pw_ifs1 (S.T _ _ _ _ O h)
  · cases h
theorem snd_I {n : Nat} (S : Snd n) : ∀ c X tg e w, CtOk c X → trI c (n + 1) tg e = some w → PIw X tg e w := by
  intro c X tg e w O h
  unfold trI at h
  split at h
  · rename_i x p as pos
    split at h
    · rename_i ex
      subst ex
      obtain ⟨g, h⟩ := og_iff h
      obtain ⟨wr, h1, rfl⟩ := map_iff h
      obtain ⟨A1, L1⟩ := S.A _ _ _ _ O h1
      rw [Bool.and_eq_true_iff, Bool.and_eq_true_iff, Bool.and_eq_true_iff] at g
      obtain ⟨⟨⟨g1, g2⟩, g3⟩, g4⟩ := g
      have hm := O.B _ (of_decide_eq_true g2)
      match as, g3, g4, A1, L1 with
      | [a], g3, _, A1, L1 =>
        obtain ⟨p1, _⟩ := Bool.and_eq_true_iff.mp g3
        exact pw_rng1 (O.gl g1) hm A1 L1 (ns_of [] p1)
      | [a, b], g3, _, A1, L1 =>
        obtain ⟨p1, p2⟩ := Bool.and_eq_true_iff.mp g3
        obtain ⟨p2, _⟩ := Bool.and_eq_true_iff.mp p2
        exact pw_rng2 (O.gl g1) hm A1 L1 (by rw [ns_of [b] p1, ns_of [] p2]; rfl) (ns_of [] p2)
      | [a, b, d], g3, _, A1, L1 =>
        obtain ⟨p1, p2⟩ := Bool.and_eq_true_iff.mp g3
        exact pw_rng3 (O.gl g1) hm A1 L1 (ns_of [b, d] p1) (back_of p2)
      | [], _, g4, _, _ => simp at g4
      | _ :: _ :: _ :: _ :: _, _, g4, _, _ => simp at g4
    · split at h
      · rename_i ex
        subst ex
        obtain ⟨g, h⟩ := og_iff h
        obtain ⟨wr, h1, rfl⟩ := map_iff h
        obtain ⟨A1, L1⟩ := S.A _ _ _ _ O h1
        rw [Bool.and_eq_true_iff, Bool.and_eq_true_iff, Bool.and_eq_true_iff, Bool.and_eq_true_iff] at g
        obtain ⟨⟨⟨⟨g1, g2⟩, g3⟩, g4⟩, g5⟩ := g
        have hm := O.B _ (of_decide_eq_true g2)
        cases tg <;> try (exact absurd g5 Bool.false_ne_true)
        match as, g3, g4, A1 with
        | [a], g3, _, A1 =>
          obtain ⟨p1, _⟩ := Bool.and_eq_true_iff.mp g3
          exact pw_enum (O.gl g1) hm A1 (ns_of [] p1)
        | [], _, g4, _ => simp at g4
        | _ :: _ :: _, _, g4, _ => simp at g4
      · obtain ⟨w1, h1, rfl⟩ := map_iff h
        exact pw_seqI (S.E _ _ _ _ O h1)
  · obtain ⟨w1, h1, rfl⟩ := map_iff h
    exact pw_seqI (S.E _ _ _ _ O h1)
theorem snd : ∀ n, Snd n
  | 0 => ⟨fun _ _ _ _ _ h => (by cases h), fun _ _ _ _ _ h => (by cases h), fun _ _ _ _ _ h => (by cases h), fun _ _ _ _ _ h => (by cases h), fun _ _ _ _ _ h => (by cases h), fun _ _ _ _ _ h => (by cases h), fun _ _ _ _ _ _ h => (by cases h)⟩
  | n + 1 => ⟨snd_E (snd n), snd_T (snd n), snd_W (snd n), snd_A (snd n), snd_O (snd n), snd_C (snd n), snd_I (snd n)⟩
end
end WW


set_option Elab.async false
set_option linter.all false
set_option maxRecDepth 100000
set_option maxHeartbeats 4000000
set_option autoImplicit false
namespace WW
open PySem PySem.Spec PyProof.Rows L2

mutual
def trS (c : Ct) : Nat → Stmt → Option WS
  | 0, _ => none
  | n + 1, s => match s with
    | .Return none _ => some wRetN
    | .Return (some e) _ => (trE c n e).map wRet
    | .Expr e _ => og (!isComp e) ((trE c n e).map wDrop)
    | .Assign [.Name x _] e _ => o2 wAsg (slotS c x) (trE c n e)
    | .Assign [.Tuple es k p] e _ => og (!isComp e && !isTup e) (o2 wAsgP (trP c (.Tuple es k p)) (trE c n e))
    | .Assign [.Subscript o i _] e _ => og (!isComp e && plainX i) (o2 (fun o ie => wSet o ie.1 ie.2) (trE c n o) (o2 Prod.mk (trE c n i) (trE c n e)))
    | .If t a b _ => o2 (fun t ab => wIfS t ab.1 ab.2) (trT c n t) (o2 Prod.mk (trL c n a) (trL c n b))
    | .While t b [] _ => o2 wWhl (trT c n t) (trL c n b)
    | .For tg it b [] _ => og (plainX it) (o2 (fun wi pb => wFor wi pb.1 pb.2) (trI c n tg it) (o2 Prod.mk (trP c tg) (trL c n b)))
    | .Break _ => some wBrk
    | .Continue _ => some wCnt
    | .Pass _ => some wPas
    | _ => none
def trL (c : Ct) : Nat → List Stmt → Option WS
  | 0, _ => none
  | n + 1, ss => match ss with
    | [] => some wPas
    | [s] => trS c n s
    | s :: r => o2 wSq (trS c n s) (trL c n r)
end
structure SndS (n : Nat) : Prop where
  S : ∀ c X s w, CtOk c X → trS c n s = some w → PSw X s w
  L : ∀ c X s w, CtOk c X → trL c n s = some w → PBw X s w
theorem notB {b : Bool} (h : (!b) = true) : b = false := by cases b with
  | false => rfl
  | true => cases h
theorem asg_S {c : Ct} {X : Cx} {n : Nat} {x : Str} {e : Expr} {i : Nat} {w : W} {px pos : Pos} (O : CtOk c X) (h1 : WW.slotS c x = some i) (h2 : trE c n e = some w) : PSw X (.Assign [.Name x px] e pos) (wAsg i w) := by
  obtain ⟨a, b, d⟩ := O.slotS h1
  have P := (snd n).E _ _ _ _ O h2
  cases hc : isComp e with
  | false => exact pw_asg O.cN a b P (sw_of hc) d
  | true =>
    cases n with
    | zero => cases h2
    | succ n =>
      cases e with
      | ListComp elt gens scope p' =>
        match gens, h2, P with
        | [⟨tg, it, ifs, 0⟩], h2, P =>
          obtain ⟨wi, p, t, e, L, rfl⟩ := snd_lc (snd n) O h2
          have hsw : swapsWith (.ListComp elt [⟨tg, it, ifs, 0⟩] scope p') (some (.Name x px)) pos.line X.env = pure (X.env.blockKind == .function && X.env.kindOf x == some .local && px.line == p'.line && !(scope.names.any fun (n, k) => n == x && (k == .local || k == .cell))) := rfl
          cases hb : (X.env.blockKind == .function && X.env.kindOf x == some .local && px.line == p'.line && !(scope.names.any fun (n, k) => n == x && (k == .local || k == .cell))) with
          | false => exact pw_asg O.cN a b P (by rw [hsw, hb]) d
          | true =>
            have hk : X.env.kindOf x = some .local := by
              rw [Bool.and_eq_true_iff, Bool.and_eq_true_iff, Bool.and_eq_true_iff] at hb
              exact eq_of_beq hb.1.1.2
            exact pw_setLc O.calm O.cN a hk (by rw [hsw, hb]) L.hi L.ok L.mt L.me L.hp L.hg L.ht L.he (fs_of L.pl)
        | [], h2, _ => cases h2
        | [⟨_, _, _, Int.ofNat (_ + 1)⟩], h2, _ => cases h2
        | [⟨_, _, _, Int.negSucc _⟩], h2, _ => cases h2
        | ⟨_, _, _, Int.ofNat 0⟩ :: _ :: _, h2, _ => cases h2
        | ⟨_, _, _, Int.ofNat (_ + 1)⟩ :: _ :: _, h2, _ => cases h2
        | ⟨_, _, _, Int.negSucc _⟩ :: _ :: _, h2, _ => cases h2
      | SetComp _ _ _ _ => cases h2
      | DictComp _ _ _ _ _ => cases h2
      | _ => cases hc
theorem sws_of {env : Env} {e : Expr} {t : Expr} {l : Nat} (h : isComp e = false) : swapsWithSole [t] e l env = pure false := sw_of h
theorem sndS_S {n : Nat} (Z : SndS n) : ∀ c X s w, CtOk c X → trS c (n + 1) s = some w → PSw X s w := by
  intro c X s w O h
  unfold trS at h
  split at h
  · cases h
    exact pw_retN
  · obtain ⟨a, h1, rfl⟩ := map_iff h
    exact pw_ret ((snd n).E _ _ _ _ O h1)
  · obtain ⟨g, h⟩ := og_iff h
    obtain ⟨a, h1, rfl⟩ := map_iff h
    exact pw_drop ((snd n).E _ _ _ _ O h1) (sw_of (notB g))
  · obtain ⟨i, a, h1, h2, rfl⟩ := o2_iff h
    exact asg_S O h1 h2
  · obtain ⟨g, h⟩ := og_iff h
    obtain ⟨g1, g2⟩ := Bool.and_eq_true_iff.mp g
    obtain ⟨p, a, h1, h2, rfl⟩ := o2_iff h
    exact pw_asgP (O.pg h1) ((snd n).E _ _ _ _ O h2) (sws_of (notB g1)) (ss_of (notB g2)) rfl
  · rename_i o i p e pos
    obtain ⟨g, h⟩ := og_iff h
    obtain ⟨g1, g2⟩ := Bool.and_eq_true_iff.mp g
    obtain ⟨wo, ie, h1, h2, rfl⟩ := o2_iff h
    obtain ⟨wi, we, h3, h4, rfl⟩ := o2_iff h2
    refine pw_setS ((snd n).E _ _ _ _ O h1) ((snd n).E _ _ _ _ O h3) ((snd n).E _ _ _ _ O h4) ?_ (sws_of (notB g1)) ?_ rfl
    · intro v
      cases i <;> first | rfl | exact absurd g2 Bool.false_ne_true
    · cases e <;> rfl
  · obtain ⟨t, ab, h1, h2, rfl⟩ := o2_iff h
    obtain ⟨a, b, h3, h4, rfl⟩ := o2_iff h2
    exact pw_ifS ((snd n).T _ _ _ _ O h1) (Z.L _ _ _ _ O h3) (Z.L _ _ _ _ O h4)
  · obtain ⟨t, b, h1, h2, rfl⟩ := o2_iff h
    exact pw_whl O.pp ((snd n).T _ _ _ _ O h1) (Z.L _ _ _ _ O h2)
  · obtain ⟨g, h⟩ := og_iff h
    obtain ⟨wi, pb, h1, h2, rfl⟩ := o2_iff h
    obtain ⟨p, b, h3, h4, rfl⟩ := o2_iff h2
    exact pw_for O.pp O.calm ((snd n).I _ _ _ _ _ O h1) (O.pg h3) (Z.L _ _ _ _ O h4) (fs_of g)
  · cases h
    exact pw_brk
  · cases h
    exact pw_cnt
  · cases h
    exact pw_pas
  · cases h
theorem sndS_L {n : Nat} (Z : SndS n) : ∀ c X s w, CtOk c X → trL c (n + 1) s = some w → PBw X s w := by
  intro c X s w O h
  unfold trL at h
  split at h
  · cases h
    exact pw_sNil
  · exact pw_sOne (Z.S _ _ _ _ O h)
  · obtain ⟨a, b, h1, h2, rfl⟩ := o2_iff h
    exact pw_sCons (Z.S _ _ _ _ O h1) (Z.L _ _ _ _ O h2)
theorem sndS : ∀ n, SndS n
  | 0 => ⟨fun _ _ _ _ _ h => (by cases h), fun _ _ _ _ _ h => (by cases h)⟩
  | n + 1 => ⟨sndS_S (sndS n), sndS_L (sndS n)⟩

/-! ### a def: from its clean code to the machine's promise -/
def ctOf (N : List Str) (st : Stmt) (G : List (Str × Nat × Spec)) (B : List Str) : Ct := ⟨N, defScope st, fun x => isLoc ((defScope st).names.lookup x), G, B⟩
def kkOf (Q : Q1) : KK := ⟨fun _ S => Q .non S, Q, fun _ _ => False, fun _ _ => False⟩
def rhoOf (n : Nat) (ds : List D) : Rho := ds.map some ++ List.replicate (n - ds.length) none
/-- the clean code keeps the promise -/
def Good (n m : Nat) (code : WS) (sp : Spec) : Prop := ∀ ds S Q, ds.length = m → sp ds S Q → code (kkOf Q) (rhoOf n ds) S
/-- a def that may be called -/
structure Known (P : Program) (w : World) (K : PySem.W.Frag) (mg : Str → Option Value) (base : Heap) (k : Nat) (x : Str) (m : Nat) (sp : Spec) : Prop where
  ok : ∃ f fd ps, FnOk P w K mg base CX0 k f fd ps (spOf K m sp) ∧ mg x = some (.ref f) ∧ PySem.W.keepIn K (.ref f) = true ∧ Binds K fd ps []
theorem Known.mono {P : Program} {w : World} {K : PySem.W.Frag} {mg : Str → Option Value} {base : Heap} {j k : Nat} {x : Str} {m : Nat} {sp : Spec} (h : Known P w K mg base j x m sp) (e : j ≤ k) : Known P w K mg base k x m sp :=
  let ⟨f, fd, ps, a, b⟩ := h.ok
  ⟨f, fd, ps, a.mono e, b⟩
section
variable {P : Program} {w : World} {K : PySem.W.Frag} {mg : Str → Option Value} {base : Heap}
theorem def_ok {x qual : Str} {st : Stmt} {f : Addr} {fd : FuncData} {N ps : List Str} {k n : Nat} {G : List (Str × Nat × Spec)} {B : List Str} {sp : Spec} {code : WS} (F : Fun K x qual st f fd) (S : FnScope N ps (defScope st))
    (hG : ∀ y m sp, G.lookup y = some (m, sp) → Known P w K mg base k y m sp) (hB : ∀ y ∈ B, mg y = none) (tr : trL (ctOf N st G B) n (defBody st) = some code) (good : Good N.length ps.length code sp) :
    FnOk P w K mg base CX0 (k + 1) f fd ps (spOf K ps.length sp) := by
  refine F.ok S (fun vs H Q E h => ?_) (fun cdv A outer s H vs Q E hr h => ?_)
  · obtain ⟨ι, S, ds, R, r, hl, _⟩ := h
    rw [← r.length]; exact hl
  · obtain ⟨ι, S0, ds, R, r, hl, Q0, q0, q1⟩ := h
    generalize hX : (cxOf CX0 P w K mg base N qual (defScope st) f cdv A outer s H E).nox = X
    have eK : X.K = K := by
      rw [← hX]
      rfl
    have O : CtOk (ctOf N st G B) X := by
      rw [← hX]
      refine ⟨rfl, S.nd, rfl, rfl, rfl, fun y hy => ?_, fun y m sp hy => ?_, hB, ?_⟩
      · have hy : isLoc ((defScope st).names.lookup y) = true := hy
        refine ⟨?_, .inl rfl⟩
        show (defScope st).names.lookup y = some .local ∨ (defScope st).names.lookup y = some .cell
        revert hy
        cases (defScope st).names.lookup y with
        | none => intro z; cases z
        | some k => cases k <;> simp [isLoc]
      · obtain ⟨f, fd, ps, a, b, d, e⟩ := (hG y m sp hy).ok
        exact ⟨k, f, fd, ps, a, hr, b, d, e⟩
      · have := hr.un
        show (A.deeper (envOfC qual (defScope st) s.heap.objs.size f cdv)).units + 64 < cLine
        omega
    have B := (sndS n).L _ _ _ _ O tr
    refine ⟨_, B.ps, kkOf Q0, rhoOf N.length ds, ι, S0, ?_, ?_, ?_, good ds S0 Q0 hl q0⟩
    · rw [eK]
      have e := RepE.start r (N.length - ds.length)
      unfold rhoOf L2.start
      rw [← r.length]
      exact e
    · rw [eK]; exact R
    · rw [eK]
      exact ⟨fun ρ S1 σ H1 ι1 T R1 E1 q => q1 _ _ q .non H1 ι1 T R1 rfl, fun d S1 v H1 ι1 T R1 rv q => q1 _ _ q v H1 ι1 T R1 rv, fun ρ S1 σ H1 ι1 T R1 E1 q => q.elim, fun ρ S1 σ H1 ι1 T R1 E1 q => q.elim⟩
theorem known {x qual : Str} {st : Stmt} {f : Addr} {fd : FuncData} {N ps : List Str} {k n : Nat} {G : List (Str × Nat × Spec)} {B : List Str} {sp : Spec} {code : WS} (F : Fun K x qual st f fd) (S : FnScope N ps (defScope st))
    (hG : ∀ y m sp, G.lookup y = some (m, sp) → Known P w K mg base k y m sp) (hB : ∀ y ∈ B, mg y = none) (tr : trL (ctOf N st G B) n (defBody st) = some code) (good : Good N.length ps.length code sp) (hm : mg x = some (.ref f)) (hb : Binds K fd ps []) :
    Known P w K mg base (k + 1) x ps.length sp := ⟨f, fd, ps, def_ok F S hG hB tr good, hm, F.kp, hb⟩
theorem known_nil {k : Nat} : ∀ (y : Str) (m : Nat) (sp : Spec), ([] : List (Str × Nat × Spec)).lookup y = some (m, sp) → Known P w K mg base k y m sp := fun _ _ _ h => nomatch h
theorem known_cons {k : Nat} {x : Str} {m : Nat} {sp : Spec} {G : List (Str × Nat × Spec)} (h : Known P w K mg base k x m sp) (g : ∀ (y : Str) (m : Nat) (sp : Spec), G.lookup y = some (m, sp) → Known P w K mg base k y m sp) :
    ∀ (y : Str) (m' : Nat) (sp' : Spec), ((x, m, sp) :: G).lookup y = some (m', sp') → Known P w K mg base k y m' sp' := fun y m' sp' e => by
  rw [List.lookup_cons] at e
  split at e
  · rename_i hy
    have := eq_of_beq hy
    subst this
    cases e
    exact h
  · exact g y m' sp' e
end
end WW


set_option autoImplicit false
set_option linter.all false
namespace WW
/-! ### numbers by their bits -/
/-- the number below 2^n whose bits are p -/
def mk : Nat → (Nat → Bool) → Nat
  | 0, _ => 0
  | n + 1, p => mk n p + if p n = true then 2 ^ n else 0
theorem mk_lt (n : Nat) (p : Nat → Bool) : mk n p < 2 ^ n := by
  induction n with
  | zero => simp [mk]
  | succ n ih =>
    unfold mk
    rw [Nat.pow_succ]
    split <;> omega
theorem mk_bit (n : Nat) (p : Nat → Bool) (i : Nat) : (mk n p).testBit i = (decide (i < n) && p i) := by
  induction n with
  | zero => simp [mk]
  | succ n ih =>
    unfold mk
    by_cases hp : p n = true
    · rw [if_pos hp, Nat.add_comm]
      by_cases h : i < n
      · rw [Nat.testBit_two_pow_add_gt h, ih]
        simp [h, Nat.lt_succ_of_lt h]
      · by_cases h2 : i = n
        · subst h2
          rw [Nat.testBit_two_pow_add_eq, Nat.testBit_lt_two_pow (mk_lt i p)]
          simp [hp]
        · rw [Nat.testBit_lt_two_pow]
          · simp [show ¬ i < n + 1 by omega]
          · have h1 := mk_lt n p
            have h3 : 2 ^ (n + 1) ≤ 2 ^ i := Nat.pow_le_pow_right (by decide) (by omega)
            rw [Nat.pow_succ] at h3
            omega
    · rw [if_neg hp, Nat.add_zero, ih]
      by_cases h2 : i = n
      · subst h2
        simp [hp]
      · congr 1
        rw [decide_eq_decide]
        omega
theorem bit_ext {x y : Nat} (h : ∀ i, x.testBit i = y.testBit i) : x = y := Nat.eq_of_testBit_eq h
theorem mk_self {n L : Nat} (h : L < 2 ^ n) : mk n L.testBit = L := bit_ext fun i => by
  rw [mk_bit]
  by_cases hi : i < n
  · simp [hi]
  · rw [Nat.testBit_lt_two_pow (Nat.lt_of_lt_of_le h (Nat.pow_le_pow_right (by decide) (by omega)))]
    simp
theorem mk_congr {n : Nat} {p q : Nat → Bool} (h : ∀ i, i < n → p i = q i) : mk n p = mk n q := bit_ext fun i => by
  rw [mk_bit, mk_bit]
  by_cases hi : i < n
  · rw [h i hi]
  · simp [hi]
theorem mk_all (n : Nat) : mk n (fun _ => true) = 2 ^ n - 1 := bit_ext fun i => by
  rw [mk_bit, Nat.testBit_two_pow_sub_one]
  simp
/-- sums of numbers without a common bit -/
theorem add_or : ∀ (n a b : Nat), a < 2 ^ n → (∀ i, (a.testBit i && b.testBit i) = false) → a + b = a ||| b := by
  intro n
  induction n with
  | zero =>
    intro a b h _
    have : a = 0 := by omega
    subst this
    simp
  | succ n ih =>
    intro a b h hd
    have h1 : a / 2 + b / 2 = a / 2 ||| b / 2 := ih (a / 2) (b / 2) (by rw [Nat.pow_succ] at h; omega) (fun i => by
      have := hd (i + 1)
      rw [Nat.testBit_succ, Nat.testBit_succ] at this
      exact this)
    have h0 := hd 0
    simp only [Nat.testBit_zero] at h0
    apply bit_ext
    intro i
    rw [Nat.testBit_or]
    cases i with
    | zero =>
      simp only [Nat.testBit_zero]
      have e : (a + b) % 2 = (a % 2 + b % 2) % 2 := Nat.add_mod a b 2
      rcases Nat.mod_two_eq_zero_or_one a with ha | ha <;> rcases Nat.mod_two_eq_zero_or_one b with hb | hb <;> simp [e, ha, hb] at h0 ⊢
    | succ i =>
      rw [Nat.testBit_succ, Nat.testBit_succ, Nat.testBit_succ]
      have e : (a + b) / 2 = a / 2 + b / 2 := by
        rcases Nat.mod_two_eq_zero_or_one a with ha | ha <;> rcases Nat.mod_two_eq_zero_or_one b with hb | hb <;> simp [ha, hb] at h0 <;> omega
      rw [e, h1, Nat.testBit_or]
theorem add_or' {a b : Nat} (h : ∀ i, (a.testBit i && b.testBit i) = false) : a + b = a ||| b := add_or a a b (Nat.lt_two_pow_self) h
theorem bit_add {a b : Nat} (h : ∀ i, (a.testBit i && b.testBit i) = false) (i : Nat) : (a + b).testBit i = (a.testBit i || b.testBit i) := by
  rw [add_or' h, Nat.testBit_or]
/-- a part taken away -/
theorem bit_sub {a b : Nat} (h : ∀ i, b.testBit i = true → a.testBit i = true) : b ≤ a ∧ ∀ i, (a - b).testBit i = (a.testBit i && !b.testBit i) := by
  have hc : b + (a ^^^ b) = a := by
    rw [add_or' (fun i => by
      rw [Nat.testBit_xor]
      cases hb : b.testBit i with
      | false => rfl
      | true => rw [h i hb]; rfl)]
    apply bit_ext
    intro i
    rw [Nat.testBit_or, Nat.testBit_xor]
    cases hb : b.testBit i with
    | false => simp
    | true => rw [h i hb]; rfl
  refine ⟨by omega, fun i => ?_⟩
  have e : a - b = a ^^^ b := by omega
  rw [e, Nat.testBit_xor]
  cases hb : b.testBit i with
  | false => simp
  | true => rw [h i hb]; rfl
theorem bit_two_pow (h i : Nat) : (2 ^ h).testBit i = decide (h = i) := Nat.testBit_two_pow
/-- h with its bit b set or not -/
theorem bit_low {b h : Nat} (hb : h.testBit b = true) : 2 ^ b ≤ h := Nat.ge_two_pow_of_testBit hb
theorem bit_take {b h : Nat} (hb : h.testBit b = true) : ∀ i, (h - 2 ^ b).testBit i = (h.testBit i && !decide (b = i)) := fun i => by
  rw [(bit_sub (a := h) (b := 2 ^ b) fun i e => by
    rw [bit_two_pow] at e
    rw [← of_decide_eq_true e]; exact hb).2, bit_two_pow]
theorem bit_give {b h : Nat} (hb : h.testBit b = false) : ∀ i, (h + 2 ^ b).testBit i = (h.testBit i || decide (b = i)) := fun i => by
  rw [bit_add (fun j => by
    rw [bit_two_pow]
    by_cases e : b = j
    · subst e; rw [hb]; rfl
    · simp [e]), bit_two_pow]
theorem lt_of_bits {n h : Nat} (e : ∀ i, n ≤ i → h.testBit i = false) : h < 2 ^ n := Nat.lt_pow_two_of_testBit h e
theorem bit_lt {n h i : Nat} (hl : h < 2 ^ n) (hi : n ≤ i) : h.testBit i = false := Nat.testBit_lt_two_pow (Nat.lt_of_lt_of_le hl (Nat.pow_le_pow_right (by decide) hi))
/-! ### lots -/
def allN (w : Nat) : Nat := 2 ^ 2 ^ w - 1
/-- the headers of width w whose bit b is 0 -/
def zerosN (b w : Nat) : Nat := mk (2 ^ w) fun h => !h.testBit b
theorem zeros_bit (b w h : Nat) : (zerosN b w).testBit h = (decide (h < 2 ^ w) && !h.testBit b) := mk_bit ..
theorem zeros_mul {b w : Nat} (hb : b < w) : (2 ^ 2 ^ b + 1) * zerosN b w = allN w := by
  have e : (2 ^ 2 ^ b + 1) * zerosN b w = zerosN b w + zerosN b w * 2 ^ 2 ^ b := by
    rw [Nat.add_mul, Nat.one_mul, Nat.add_comm, Nat.mul_comm]
  rw [e]
  have hd : ∀ i, ((zerosN b w).testBit i && (zerosN b w * 2 ^ 2 ^ b).testBit i) = false := fun i => by
    rw [Nat.testBit_mul_two_pow, zeros_bit, zeros_bit]
    by_cases h1 : 2 ^ b ≤ i
    · by_cases h2 : (i - 2 ^ b).testBit b = true
      · simp [h2]
      · have h2 : (i - 2 ^ b).testBit b = false := by simpa using h2
        have h3 := bit_give h2 b
        rw [show i - 2 ^ b + 2 ^ b = i by omega] at h3
        simp [h3]
    · simp [h1]
  apply bit_ext
  intro i
  rw [bit_add hd, Nat.testBit_mul_two_pow, zeros_bit, zeros_bit]
  unfold allN
  rw [Nat.testBit_two_pow_sub_one]
  by_cases hi : i < 2 ^ w
  · cases hbit : i.testBit b with
    | false => simp [hi]
    | true =>
      have h1 := bit_low hbit
      have h2 := bit_take hbit b
      have h3 : i - 2 ^ b < 2 ^ w := by
        have := Nat.two_pow_pos b
        omega
      simp [hi, h1, h2, h3]
  · have : ¬ i < 2 ^ w := hi
    by_cases h1 : 2 ^ b ≤ i
    · by_cases h2 : i - 2 ^ b < 2 ^ w
      · cases h3 : (i - 2 ^ b).testBit b with
        | true => simp [hi]
        | false =>
          exfalso
          apply hi
          have h4 := bit_give h3
          rw [show i - 2 ^ b + 2 ^ b = i by omega] at h4
          apply lt_of_bits
          intro j hj
          rw [h4, bit_lt h2 hj]
          simp
          omega
      · simp [hi, h2]
    · simp [hi, h1]
theorem zeros_div {b w : Nat} (hb : b < w) : allN w / (2 ^ 2 ^ b + 1) = zerosN b w := by
  rw [← zeros_mul hb]
  exact Nat.mul_div_cancel_left _ (Nat.succ_pos _)
theorem all_bit (w h : Nat) : (allN w).testBit h = decide (h < 2 ^ w) := Nat.testBit_two_pow_sub_one ..
/-- the headers that fit the cube, by bits below k -/
def fitB (c v k h : Nat) : Bool := (List.range k).all fun b => !c.testBit b || (h.testBit b == v.testBit b)
theorem fitB_succ (c v k h : Nat) : fitB c v (k + 1) h = (fitB c v k h && (!c.testBit k || (h.testBit k == v.testBit k))) := by
  unfold fitB
  rw [List.range_succ, List.all_append]
  simp
theorem fitB_iff {c v k h : Nat} : fitB c v k h = true ↔ ∀ b, b < k → c.testBit b = true → h.testBit b = v.testBit b := by
  unfold fitB
  rw [List.all_eq_true]
  constructor
  · intro q b hb hc
    have := q b (List.mem_range.mpr hb)
    rw [hc] at this
    simpa using this
  · intro q b hb
    cases hc : c.testBit b with
    | false => rfl
    | true =>
      have := q b (List.mem_range.mp hb) hc
      rw [this]
      simp
def lotK (c v w k : Nat) : Nat := mk (2 ^ w) (fitB c v k)
theorem lotK_bit (c v w k h : Nat) : (lotK c v w k).testBit h = (decide (h < 2 ^ w) && fitB c v k h) := mk_bit ..
theorem lotK_zero (c v w : Nat) : lotK c v w 0 = allN w := bit_ext fun i => by
  rw [lotK_bit, all_bit]
  simp [fitB]
/-- one turn of lot_of -/
theorem lotK_low {c v w k : Nat} (h : Nat) : (lotK c v w k &&& zerosN k w).testBit h = (decide (h < 2 ^ w) && fitB c v k h && !h.testBit k) := by
  rw [Nat.testBit_and, lotK_bit, zeros_bit]
  cases decide (h < 2 ^ w) <;> simp
theorem lotK_turn0 {c v w k : Nat} (hc : c.testBit k = true) (hv : v.testBit k = false) : lotK c v w k &&& zerosN k w = lotK c v w (k + 1) := bit_ext fun h => by
  rw [lotK_low, lotK_bit, fitB_succ, hc, hv]
  cases decide (h < 2 ^ w) <;> simp
theorem lotK_turn1 {c v w k : Nat} (hc : c.testBit k = true) (hv : v.testBit k = true) : (lotK c v w k &&& zerosN k w) ≤ lotK c v w k ∧ lotK c v w k - (lotK c v w k &&& zerosN k w) = lotK c v w (k + 1) := by
  have hs : ∀ i, (lotK c v w k &&& zerosN k w).testBit i = true → (lotK c v w k).testBit i = true := fun i e => by
    rw [Nat.testBit_and] at e
    exact (Bool.and_eq_true_iff.mp e).1
  obtain ⟨h1, h2⟩ := bit_sub hs
  refine ⟨h1, bit_ext fun h => ?_⟩
  rw [h2, lotK_low, lotK_bit, lotK_bit, fitB_succ, hc, hv]
  cases decide (h < 2 ^ w) <;> cases fitB c v k h <;> simp
theorem lotK_turn {c v w k : Nat} (hc : c.testBit k = false) : lotK c v w k = lotK c v w (k + 1) := bit_ext fun h => by
  rw [lotK_bit, lotK_bit, fitB_succ, hc]
  simp
/-- the lot of a cube -/
def lotN (c v w : Nat) : Nat := lotK c v w w
theorem fitB_and {c v w h : Nat} (hc : c < 2 ^ w) (hv : v &&& c = v) : fitB c v w h = decide (h &&& c = v) := by
  rw [Bool.eq_iff_iff, fitB_iff, decide_eq_true_iff]
  constructor
  · intro q
    apply bit_ext
    intro i
    rw [Nat.testBit_and]
    have e : v.testBit i = (v.testBit i && c.testBit i) := by rw [← Nat.testBit_and, hv]
    cases hi : c.testBit i with
    | false => rw [hi, Bool.and_false] at e; rw [e]; simp
    | true =>
      have : i < w := by
        apply Nat.lt_of_not_le
        intro z
        rw [bit_lt hc z] at hi
        cases hi
      simp [q i this hi]
  · intro q b _ hb
    rw [← q, Nat.testBit_and, hb]
    simp
theorem lot_bit {c v w : Nat} (hc : c < 2 ^ w) (hv : v &&& c = v) (h : Nat) : (lotN c v w).testBit h = (decide (h < 2 ^ w) && decide (h &&& c = v)) := by
  unfold lotN
  rw [lotK_bit, fitB_and hc hv]
theorem lot_lt (c v w : Nat) : lotN c v w < 2 ^ 2 ^ w := mk_lt ..
/-! ### the headers of a lot, ascending -/
def hdrs (n L : Nat) : List Nat := (List.range n).filter L.testBit
theorem hdrs_succ (n L : Nat) : hdrs (n + 1) L = hdrs n L ++ if L.testBit n = true then [n] else [] := by
  unfold hdrs
  rw [List.range_succ, List.filter_append]
  congr 1
  by_cases h : L.testBit n = true
  · simp [h]
  · simp [h]
theorem hdrs_mem {n L h : Nat} : h ∈ hdrs n L ↔ h < n ∧ L.testBit h = true := by
  unfold hdrs
  rw [List.mem_filter, List.mem_range]
theorem hdrs_asc (n L : Nat) : (hdrs n L).Pairwise (· < ·) := by
  unfold hdrs
  exact List.Pairwise.filter _ (List.pairwise_lt_range)
/-- ascending lists with the same members are one -/
theorem asc_ext : ∀ {a b : List Nat}, a.Pairwise (· < ·) → b.Pairwise (· < ·) → (∀ x, x ∈ a ↔ x ∈ b) → a = b
  | [], [], _, _, _ => rfl
  | [], y :: b, _, _, h => by have := (h y).mpr List.mem_cons_self; cases this
  | x :: a, [], _, _, h => by have := (h x).mp List.mem_cons_self; cases this
  | x :: a, y :: b, ha, hb, h => by
    rw [List.pairwise_cons] at ha hb
    have e : x = y := by
      have h1 := (h x).mp List.mem_cons_self
      have h2 := (h y).mpr List.mem_cons_self
      rcases List.mem_cons.mp h1 with q | q
      · exact q
      · rcases List.mem_cons.mp h2 with r | r
        · exact r.symm
        · have := hb.1 x q
          have := ha.1 y r
          omega
    subst e
    congr 1
    apply asc_ext ha.2 hb.2
    intro z
    constructor
    · intro hz
      rcases List.mem_cons.mp ((h z).mp (List.mem_cons_of_mem _ hz)) with q | q
      · subst q
        exact absurd (ha.1 z hz) (Nat.lt_irrefl _)
      · exact q
    · intro hz
      rcases List.mem_cons.mp ((h z).mpr (List.mem_cons_of_mem _ hz)) with q | q
      · subst q
        exact absurd (hb.1 z hz) (Nat.lt_irrefl _)
      · exact q
/-- the lot of a list of headers -/
def ofL : List Nat → Nat
  | [] => 0
  | h :: r => 2 ^ h ||| ofL r
theorem ofL_bit : ∀ (hs : List Nat) (i : Nat), (ofL hs).testBit i = decide (i ∈ hs)
  | [], i => by simp [ofL]
  | h :: r, i => by
    unfold ofL
    rw [Nat.testBit_or, ofL_bit r, bit_two_pow]
    by_cases e : h = i
    · simp [e]
    · have e' : ¬ i = h := fun z => e z.symm
      simp [e, e']
theorem ofL_lt {hs : List Nat} {n : Nat} (h : ∀ x ∈ hs, x < n) : ofL hs < 2 ^ n := lt_of_bits fun i hi => by
  rw [ofL_bit]
  apply decide_eq_false
  intro z
  have := h i z
  omega
theorem hdrs_ofL {hs : List Nat} {n : Nat} (ha : hs.Pairwise (· < ·)) (h : ∀ x ∈ hs, x < n) : hdrs n (ofL hs) = hs := asc_ext (hdrs_asc _ _) ha fun x => by
  rw [hdrs_mem, ofL_bit, decide_eq_true_iff]
  exact ⟨fun q => q.2, fun q => ⟨h x q, q⟩⟩
theorem hdrs_zero (n : Nat) : hdrs n 0 = [] := by
  unfold hdrs
  apply List.filter_eq_nil_iff.mpr
  intro a _
  simp
theorem hdrs_len_le (n L : Nat) : (hdrs n L).length ≤ n := by
  unfold hdrs
  have := List.length_filter_le L.testBit (List.range n)
  rw [List.length_range] at this
  exact this
/-- the lowest bit -/
theorem and_pred : ∀ (n r : Nat), r < 2 ^ n → 0 < r → ∃ k, k < n ∧ r.testBit k = true ∧ (∀ j, j < k → r.testBit j = false) ∧ r &&& (r - 1) = r - 2 ^ k := by
  intro n
  induction n with
  | zero => intro r h h0; simp at h; omega
  | succ n ih =>
    intro r h h0
    rcases Nat.mod_two_eq_zero_or_one r with e | e
    · have e2 : r = 2 * (r / 2) := by omega
      obtain ⟨k, k1, k2, k3, k4⟩ := ih (r / 2) (by rw [Nat.pow_succ] at h; omega) (by omega)
      refine ⟨k + 1, by omega, by rw [Nat.testBit_succ]; exact k2, ?_, ?_⟩
      · intro j hj
        cases j with
        | zero => simp [Nat.testBit_zero, e]
        | succ j => rw [Nat.testBit_succ]; exact k3 j (by omega)
      · have hk : 2 ^ k ≤ r / 2 := bit_low k2
        have hp : 2 ^ (k + 1) = 2 * 2 ^ k := by rw [Nat.pow_succ, Nat.mul_comm]
        have h1 : (r &&& (r - 1)) / 2 = (r / 2 &&& (r / 2 - 1)) := by
          rw [show r / 2 - 1 = (r - 1) / 2 by omega]
          apply bit_ext
          intro i
          rw [Nat.testBit_and, ← Nat.testBit_succ, ← Nat.testBit_succ, ← Nat.testBit_succ, Nat.testBit_and]
        have h2 : (r &&& (r - 1)) % 2 = 0 := by
          have : (r &&& (r - 1)).testBit 0 = false := by
            rw [Nat.testBit_and, Nat.testBit_zero, e]
            rfl
          rw [Nat.testBit_zero] at this
          generalize r &&& (r - 1) = X at this ⊢
          simp at this
          omega
        rw [k4] at h1
        generalize r &&& (r - 1) = X at h1 h2 ⊢
        omega
    · refine ⟨0, by omega, by simp [Nat.testBit_zero, e], fun j hj => absurd hj (by omega), ?_⟩
      have h1 : (r &&& (r - 1)) / 2 = r / 2 := by
        apply bit_ext
        intro i
        rw [← Nat.testBit_succ, Nat.testBit_and, Nat.testBit_succ, Nat.testBit_succ, show (r - 1) / 2 = r / 2 by omega]
        simp
      have h2 : (r &&& (r - 1)) % 2 = 0 := by
        have : (r &&& (r - 1)).testBit 0 = false := by
          rw [Nat.testBit_and, Nat.testBit_zero, Nat.testBit_zero]
          simp
          omega
        rw [Nat.testBit_zero] at this
        generalize r &&& (r - 1) = X at this ⊢
        simp at this
        omega
      rw [Nat.pow_zero]
      generalize r &&& (r - 1) = X at h1 h2 ⊢
      omega
end WW


set_option Elab.async false
set_option linter.all false
set_option maxRecDepth 100000
set_option maxHeartbeats 4000000
set_option autoImplicit false
namespace WW
open PySem PySem.Spec PyProof.Rows L2

/-! ### the clean readings, applied -/
section
variable {ρ : Rho} {S : Sto} {Q : Q1} {k : KK} {i : Nat} {d : D} {o p : OpD} {a b c : W} {t u : WT} {x y z : WS} {wa wr : WA} {QT : Bool → Sto → Prop} {QA : List D → Sto → Prop} {QO : Option Int → Sto → Prop}
theorem ap_var : wVar i ρ S Q = gv (look ρ i) (fun d => Q d S) := rfl
theorem ap_cst : wCst d ρ S Q = Q d S := rfl
theorem ap_op : wOp o a b ρ S Q = a ρ S fun x S1 => b ρ S1 fun y S2 => o x y S2 Q := rfl
theorem ap_neg : wNeg a ρ S Q = a ρ S fun x S1 => isInt x fun i => Q (.int (-i)) S1 := rfl
theorem ap_notV : wNotV a ρ S Q = a ρ S fun x S1 => truD x S1 fun k => Q (.bl (!k)) S1 := rfl
theorem ap_andV : wAndV a b ρ S Q = a ρ S fun x S1 => truD x S1 fun k => if k = true then b ρ S1 Q else Q x S1 := rfl
theorem ap_orV : wOrV a b ρ S Q = a ρ S fun x S1 => truD x S1 fun k => if k = true then Q x S1 else b ρ S1 Q := rfl
theorem ap_chain : wChain o p a b c ρ S Q = a ρ S fun x S1 => b ρ S1 fun y S2 => o x y S2 fun z S3 => isBl z fun k => if k = true then c ρ S3 fun u S4 => p y u S4 Q else Q (.bl false) S3 := rfl
theorem ap_if : wIf t a b ρ S Q = t ρ S fun k S1 => if k = true then a ρ S1 Q else b ρ S1 Q := rfl
theorem ap_nil : wNil ρ S QA = QA [] S := rfl
theorem ap_cons : wCons a wr ρ S QA = a ρ S fun x S1 => wr ρ S1 fun xs S2 => QA (x :: xs) S2 := rfl
theorem ap_tup : wTup wa ρ S Q = wa ρ S fun xs S1 => xs.length ≤ sizeLine ∧ Q (.tup xs) S1 := rfl
theorem ap_lst : wLst wa ρ S Q = wa ρ S fun xs S1 => xs.length ≤ sizeLine ∧ Q (.ref S1.length) (S1 ++ [.lst xs]) := rfl
theorem ap_noP : wNoP ρ S QO = QO none S := rfl
theorem ap_part : wPart a ρ S QO = a ρ S fun x S1 => isInt x fun i => QO (some i) S1 := rfl
theorem ap_slc {lo hi : WO} : wSlc a lo hi ρ S Q = a ρ S fun x S1 => lo ρ S1 fun l S2 => hi ρ S2 fun h S3 => slcD x l h S3 Q := rfl
theorem ap_call {n : Nat} {sp : Spec} : wCall n sp wa ρ S Q = wa ρ S fun ds S1 => callS n sp ds S1 Q := rfl
theorem ap_blt {f : CalD} : wBlt f wa ρ S Q = wa ρ S fun ds S1 => f ds S1 Q := rfl
theorem ap_met {ty : D → Sto → Prop} {m : MetD} : wMet ty m a wa ρ S Q = a ρ S fun x S1 => ty x S1 ∧ wa ρ S1 fun ds S2 => m x ds S2 Q := rfl
theorem ap_bits : wBits a ρ S Q = a ρ S fun x S1 => isInt x fun i => Q (.int (Builtin.Int.intBits i : Nat)) S1 := rfl
theorem ap_tst : wTst a ρ S QT = a ρ S fun d S1 => truD d S1 fun b => QT b S1 := rfl
theorem ap_tsB : wTsB a ρ S QT = a ρ S fun d S1 => isBl d fun b => QT b S1 := rfl
theorem ap_notB : wNotB t ρ S QT = t ρ S fun b S1 => QT (!b) S1 := rfl
theorem ap_andB : wAndB t u ρ S QT = t ρ S fun b S1 => if b = true then u ρ S1 QT else QT false S1 := rfl
theorem ap_orB : wOrB t u ρ S QT = t ρ S fun b S1 => if b = true then QT true S1 else u ρ S1 QT := rfl
theorem ap_yes : wYes ρ S QT = QT true S := rfl
theorem ap_sset : wSSet a ρ S Q = a ρ S fun d S1 => ssetD d S1 Q := rfl
theorem ap_lc {wi : WI} {pt : Pat} {vs : List Nat} : wLc wi pt t a vs ρ S Q = wi ρ S fun s S1 => lcGo s.stab pt t a (wipeR ρ vs) Q s.items [] S1 := rfl
theorem ap_asg : wAsg i a k ρ S = a ρ S fun d S1 => k.nx (putR ρ i (some d)) S1 := rfl
theorem ap_asgP {pt : Pat} : wAsgP pt a k ρ S = a ρ S fun d S1 => gv (bindP pt d ρ) fun ρ' => k.nx ρ' S1 := rfl
theorem ap_set : wSet a b c k ρ S = c ρ S fun y S1 => a ρ S1 fun x S2 => b ρ S2 fun z S3 => setD x z y S3 fun S4 => k.nx ρ S4 := rfl
theorem ap_drop : wDrop a k ρ S = a ρ S fun _ S1 => k.nx ρ S1 := rfl
theorem ap_ret : wRet a k ρ S = a ρ S k.rt := rfl
theorem ap_retN : wRetN k ρ S = k.rt .non S := rfl
theorem ap_brk : wBrk k ρ S = k.bk ρ S := rfl
theorem ap_cnt : wCnt k ρ S = k.ct ρ S := rfl
theorem ap_pas : wPas k ρ S = k.nx ρ S := rfl
theorem ap_sq : wSq x y k ρ S = x { k with nx := y k } ρ S := rfl
theorem ap_ifS : wIfS t x y k ρ S = t ρ S fun c S1 => if c = true then x k ρ S1 else y k ρ S1 := rfl
theorem ap_for {wi : WI} {pt : Pat} : wFor wi pt x k ρ S = wi ρ S fun s S1 => forGo s.stab pt x k s.items ρ S1 := rfl
theorem ap_seqI {QI : Src → Sto → Prop} : wSeqI a ρ S QI = a ρ S fun d S1 => srcD d S1 fun s => QI s S1 := rfl
theorem ap_rng {QI : Src → Sto → Prop} : wRng wa ρ S QI = wa ρ S fun ds S1 => rngD ds fun s => QI s S1 := rfl
theorem ap_enum {QI : Src → Sto → Prop} : wEnum wa ρ S QI = wa ρ S fun ds S1 => enum1 ds S1 fun s => QI s S1 := rfl
end
section
variable {Q : Int → Prop} {QB : Bool → Prop} {i : Int} {b : Bool} {A B : Prop} {n : Nat} {d : D} {ds : List D} {ρ : Rho} {is : List Nat} {S : Sto}
theorem rd_int : isInt (.int i) Q = Q i := rfl
theorem rd_bl : isBl (.bl b) QB = QB b := rfl
theorem rd_T : (if true = true then A else B) = A := rfl
theorem rd_F : (if false = true then A else B) = B := rfl
theorem rd_nm : bindP (.nm n) d ρ = some (putR ρ n (some d)) := rfl
theorem rd_tp : bindP (.tp is) (.tup ds) ρ = bindL is ds ρ := rfl
theorem rd_nil : bindL [] [] ρ = some ρ := rfl
theorem rd_cons : bindL (n :: is) (d :: ds) ρ = bindL is ds (putR ρ n (some d)) := rfl
theorem rd_gv {α : Type} {a : α} {Q : α → Prop} : gv (some a) Q = Q a := rfl
theorem rd_trB : truD (.bl b) S QB = QB b := rfl
theorem rd_srcT {QS : Src → Prop} : srcD (.tup ds) S QS = QS ⟨ds, fun _ => True⟩ := rfl
theorem rd_rng1 {QS : Src → Prop} {j : Int} : rngD [.int j] QS = ((-(2 ^ 62) ≤ j ∧ j < 2 ^ 62) ∧ QS ⟨(List.range j.toNat).map fun k => .int ((0 : Int) + (k : Nat)), fun _ => True⟩) := rfl
theorem rd_rng2 {QS : Src → Prop} {i j : Int} : rngD [.int i, .int j] QS = ((-(2 ^ 62) ≤ i ∧ i < 2 ^ 62 ∧ -(2 ^ 62) ≤ j ∧ j < 2 ^ 62) ∧ QS ⟨(List.range (j - i).toNat).map fun k => .int (i + (k : Nat)), fun _ => True⟩) := rfl
theorem rd_notT : (!true) = false := rfl
theorem rd_notF : (!false) = true := rfl
end
theorem callI {n : Nat} {sp : Spec} {ds : List D} {S : Sto} {Q : Q1} (hl : ds.length = n) (h : sp ds S Q) : callS n sp ds S Q := ⟨hl, Q, h, fun _ _ h => h⟩

/-! ### loops -/
theorem whl {t : WT} {b : WS} {k : KK} {ρ : Rho} {S : Sto} (I : Nat → Rho → Sto → Prop) {n : Nat} (h0 : I n ρ S)
    (hs : ∀ n ρ S (N : Rho → Sto → Prop), I n ρ S → (∀ n' ρ' S', n' < n → I n' ρ' S' → N ρ' S') → t ρ S fun c S1 => if c = true then b { k with nx := N, ct := N, bk := k.nx } ρ S1 else k.nx ρ S1) : wWhl t b k ρ S := by
  have key : ∀ m n ρ S, n < m → I n ρ S → wIt t b k m ρ S := by
    intro m
    induction m with
    | zero => intro n ρ S h; omega
    | succ m ih =>
      intro n ρ S h hI
      exact hs n ρ S (wIt t b k m) hI fun n' ρ' S' h' hI' => ih n' ρ' S' (by omega) hI'
  exact ⟨n + 1, key (n + 1) n ρ S (by omega) h0⟩
theorem forI {st : Sto → Prop} {p : Pat} {b : WS} {k : KK} {xs : List D} {ρ : Rho} {S : Sto} (I : Nat → Rho → Sto → Prop) (h0 : I 0 ρ S)
    (hs : ∀ i d ρ S (N : Rho → Sto → Prop), xs[i]? = some d → I i ρ S → (∀ ρ' S', I (i + 1) ρ' S' → N ρ' S') → st S ∧ gv (bindP p d ρ) fun ρ' => b { k with nx := N, ct := N, bk := k.nx } ρ' S)
    (he : ∀ ρ S, I xs.length ρ S → st S ∧ k.nx ρ S) : forGo st p b k xs ρ S := by
  have key : ∀ (ys : List D) i ρ S, xs.drop i = ys → i ≤ xs.length → I i ρ S → forGo st p b k ys ρ S := by
    intro ys
    induction ys with
    | nil =>
      intro i ρ S h hi hI
      have : xs.length ≤ i := List.drop_eq_nil_iff.mp h
      have e : i = xs.length := by omega
      subst e
      exact he ρ S hI
    | cons y ys ih =>
      intro i ρ S h hi hI
      have hl : i < xs.length := by
        apply Nat.lt_of_not_le
        intro z
        rw [List.drop_of_length_le z] at h
        cases h
      rw [List.drop_eq_getElem_cons hl] at h
      injection h with h1 h2
      exact hs i y ρ S _ (by rw [List.getElem?_eq_getElem hl, h1]) hI fun ρ' S' hI' => ih (i + 1) ρ' S' h2 hl hI'
  exact key xs 0 ρ S rfl (Nat.zero_le _) h0
theorem rng_get {n i : Nat} {lo : Int} {d : D} (h : ((List.range n).map fun k => D.int (lo + (k : Nat)))[i]? = some d) : i < n ∧ d = .int (lo + (i : Nat)) := by
  rw [List.getElem?_map] at h
  cases q : (List.range n)[i]? with
  | none => rw [q] at h; cases h
  | some k =>
    obtain ⟨h1, h2⟩ := List.getElem?_eq_some_iff.mp q
    rw [List.getElem_range] at h2
    subst h2
    rw [q] at h
    cases h
    exact ⟨by simpa using h1, rfl⟩
theorem forR {p : Pat} {b : WS} {k : KK} {n : Nat} {lo : Int} {ρ : Rho} {S : Sto} (I : Nat → Rho → Sto → Prop) (h0 : I 0 ρ S)
    (hs : ∀ i ρ S (N : Rho → Sto → Prop), i < n → I i ρ S → (∀ ρ' S', I (i + 1) ρ' S' → N ρ' S') → gv (bindP p (.int (lo + (i : Nat))) ρ) fun ρ' => b { k with nx := N, ct := N, bk := k.nx } ρ' S)
    (he : ∀ ρ S, I n ρ S → k.nx ρ S) : forGo (fun _ => True) p b k ((List.range n).map fun k => .int (lo + (k : Nat))) ρ S :=
  forI I h0 (fun i d ρ S N hd hI hN => by
    obtain ⟨h1, rfl⟩ := rng_get hd
    exact ⟨trivial, hs i ρ S N h1 hI hN⟩) fun ρ S hI => ⟨trivial, he ρ S (by simpa using hI)⟩
theorem lcI {st : Sto → Prop} {p : Pat} {t : WT} {e : W} {ρ0 : Rho} {Q : Q1} {xs : List D} {S : Sto} (I : Nat → List D → Sto → Prop) (h0 : I 0 [] S)
    (hs : ∀ i d acc S (N : List D → Sto → Prop), xs[i]? = some d → I i acc S → (∀ acc' S', I (i + 1) acc' S' → N acc' S') → st S ∧ gv (bindP p d ρ0) fun ρ1 => t ρ1 S fun b S1 => if b = true then e ρ1 S1 fun y S2 => acc.length < sizeLine ∧ N (acc ++ [y]) S2 else N acc S1)
    (he : ∀ acc S, I xs.length acc S → st S ∧ Q (.ref S.length) (S ++ [.lst acc])) : lcGo st p t e ρ0 Q xs [] S := by
  have key : ∀ (ys : List D) i acc S, xs.drop i = ys → i ≤ xs.length → I i acc S → lcGo st p t e ρ0 Q ys acc S := by
    intro ys
    induction ys with
    | nil =>
      intro i acc S h hi hI
      have : xs.length ≤ i := List.drop_eq_nil_iff.mp h
      have e : i = xs.length := by omega
      subst e
      exact he acc S hI
    | cons y ys ih =>
      intro i acc S h hi hI
      have hl : i < xs.length := by
        apply Nat.lt_of_not_le
        intro z
        rw [List.drop_of_length_le z] at h
        cases h
      rw [List.drop_eq_getElem_cons hl] at h
      injection h with h1 h2
      exact hs i y acc S (lcGo st p t e ρ0 Q ys) (by rw [List.getElem?_eq_getElem hl, h1]) hI fun acc' S' hI' => ih (i + 1) acc' S' h2 hl hI'
  exact key xs 0 [] S rfl (Nat.zero_le _) h0
theorem lcR {p : Pat} {t : WT} {e : W} {ρ0 : Rho} {Q : Q1} {n : Nat} {lo : Int} {S : Sto} (I : Nat → List D → Sto → Prop) (h0 : I 0 [] S)
    (hs : ∀ i acc S (N : List D → Sto → Prop), i < n → I i acc S → (∀ acc' S', I (i + 1) acc' S' → N acc' S') → gv (bindP p (.int (lo + (i : Nat))) ρ0) fun ρ1 => t ρ1 S fun b S1 => if b = true then e ρ1 S1 fun y S2 => acc.length < sizeLine ∧ N (acc ++ [y]) S2 else N acc S1)
    (he : ∀ acc S, I n acc S → Q (.ref S.length) (S ++ [.lst acc])) : lcGo (fun _ => True) p t e ρ0 Q ((List.range n).map fun k => .int (lo + (k : Nat))) [] S :=
  lcI I h0 (fun i d acc S N hd hI hN => by
    obtain ⟨h1, rfl⟩ := rng_get hd
    exact ⟨trivial, hs i acc S N h1 hI hN⟩) fun acc S hI => ⟨trivial, he acc S (by simpa using hI)⟩

/-! ### ints that are naturals -/
abbrev nt (n : Nat) : D := .int (n : Int)
section
variable {a b : Nat} {S : Sto} {Q : Q1}
theorem n_add (q : Q (nt (a + b)) S) : opAdd (nt a) (nt b) S Q := by
  show Q (.int ((a : Int) + (b : Int))) S
  rw [← Int.natCast_add]
  exact q
theorem n_sub (h : b ≤ a) (q : Q (nt (a - b)) S) : opSub (nt a) (nt b) S Q := by
  show Q (.int ((a : Int) - (b : Int))) S
  rw [← Int.ofNat_sub h]
  exact q
theorem n_and (q : Q (nt (a &&& b)) S) : opAnd (nt a) (nt b) S Q := by
  show Q (.int (Builtin.bitAnd (a : Int) (b : Int))) S
  rw [PySem.W.os_band]
  exact q
theorem n_or (q : Q (nt (a ||| b)) S) : opOr (nt a) (nt b) S Q := by
  show Q (.int (Builtin.bitOr (a : Int) (b : Int))) S
  have e : Builtin.bitOr (a : Int) (b : Int) = ((a ||| b : Nat) : Int) := by
    rw [bitOr_and, PySem.W.os_band]
    have h1 : ((a &&& b) + (a ^^^ b)) = a ||| b := by
      rw [add_or' (fun i => by rw [Nat.testBit_and, Nat.testBit_xor]; cases a.testBit i <;> cases b.testBit i <;> rfl)]
      apply bit_ext
      intro i
      rw [Nat.testBit_or, Nat.testBit_or, Nat.testBit_and, Nat.testBit_xor]
      cases a.testBit i <;> cases b.testBit i <;> rfl
    have h2 : (a &&& b) + (a ||| b) = a + b := by
      have h3 := (bit_sub (a := a) (b := a &&& b) fun i e => by rw [Nat.testBit_and] at e; exact (Bool.and_eq_true_iff.mp e).1)
      have h4 : (a - (a &&& b)) + b = a ||| b := by
        rw [add_or' (fun i => by rw [h3.2, Nat.testBit_and]; cases a.testBit i <;> cases b.testBit i <;> rfl)]
        apply bit_ext
        intro i
        rw [Nat.testBit_or, Nat.testBit_or, h3.2, Nat.testBit_and]
        cases a.testBit i <;> cases b.testBit i <;> rfl
      have := h3.1
      omega
    omega
  rw [e]
  exact q
theorem n_xor (q : Q (nt (a ^^^ b)) S) : opXor (nt a) (nt b) S Q := by
  have hor : Builtin.bitOr (a : Int) (b : Int) = ((a ||| b : Nat) : Int) := by
    have := n_or (a := a) (b := b) (S := []) (Q := fun d _ => d = nt (a ||| b)) rfl
    injection this
  show Q (.int (Builtin.bitOr (a : Int) (b : Int) - Builtin.bitAnd (a : Int) (b : Int))) S
  rw [hor, PySem.W.os_band]
  have h3 := (bit_sub (a := a ||| b) (b := a &&& b) fun i e => by rw [Nat.testBit_and] at e; rw [Nat.testBit_or, (Bool.and_eq_true_iff.mp e).1]; rfl)
  have e : (a ||| b) - (a &&& b) = a ^^^ b := by
    apply bit_ext
    intro i
    rw [h3.2, Nat.testBit_or, Nat.testBit_and, Nat.testBit_xor]
    cases a.testBit i <;> cases b.testBit i <;> rfl
  rw [← Int.ofNat_sub h3.1, e]
  exact q
theorem bits_le {n k : Nat} (h : n < 2 ^ k) : Builtin.Int.intBits (n : Int) ≤ k := by
  unfold Builtin.Int.intBits
  split
  · exact Nat.zero_le _
  · rename_i h0
    have h1 : n ≠ 0 := by
      intro z
      subst z
      exact h0 rfl
    have := (Nat.log2_lt h1).mpr h
    show (n : Int).natAbs.log2 + 1 ≤ k
    rw [Int.natAbs_natCast]
    omega
theorem bits_eq {k : Nat} : Builtin.Int.intBits ((2 ^ k : Nat) : Int) = k + 1 := by
  unfold Builtin.Int.intBits
  have h1 : (2 ^ k : Nat) ≠ 0 := Nat.ne_of_gt (Nat.two_pow_pos k)
  rw [if_neg (by
    intro z
    have := eq_of_beq z
    omega), Int.natAbs_natCast, Nat.log2_two_pow]
theorem n_shl (k : Nat) (h : a < 2 ^ k) (hb : k + b ≤ 134217728) (q : Q (nt (a * 2 ^ b)) S) : opShl (nt a) (nt b) S Q := by
  refine ⟨⟨Int.natCast_nonneg b, ?_⟩, ?_⟩
  · have := bits_le h
    show (Builtin.Int.intBits (a : Int) : Int) + (b : Int) ≤ 2 ^ 27
    have e : (2 : Int) ^ 27 = 134217728 := by decide
    rw [e]
    omega
  · show Q (.int ((a : Int) * 2 ^ (b : Int).toNat)) S
    rw [Int.toNat_natCast]
    have e : (a : Int) * 2 ^ b = ((a * 2 ^ b : Nat) : Int) := by
      rw [Int.natCast_mul, Int.natCast_pow]
      rfl
    rw [e]
    exact q
theorem n_shl1 (hb : b ≤ 134217727) (q : Q (nt (2 ^ b)) S) : opShl (.int 1) (nt b) S Q :=
  n_shl (a := 1) 1 (by decide) (by omega) (by rw [Nat.one_mul]; exact q)
theorem n_shr (q : Q (nt (a >>> b)) S) : opShr (nt a) (nt b) S Q := by
  refine ⟨Int.natCast_nonneg b, ?_⟩
  show Q (.int ((a : Int) / 2 ^ (b : Int).toNat)) S
  rw [Int.toNat_natCast]
  have e : (a : Int) / 2 ^ b = ((a >>> b : Nat) : Int) := by
    rw [Nat.shiftRight_eq_div_pow, Int.natCast_ediv, Int.natCast_pow]
    rfl
  rw [e]
  exact q
theorem n_div (h0 : 0 < b) (h : b < 2 ^ 8999) (q : Q (nt (a / b)) S) : opDiv (nt a) (nt b) S Q := by
  refine ⟨⟨by omega, ?_⟩, ?_⟩
  · rw [Int.natAbs_natCast, Nat.log2_lt (by omega)]
    exact Nat.lt_of_lt_of_le h (Nat.pow_le_pow_right (by decide) (by decide))
  · show Q (.int ((a : Int) / (b : Int))) S
    rw [← Int.natCast_ediv]
    exact q
theorem n_mod (h0 : 0 < b) (q : Q (nt (a % b)) S) : opMod (nt a) (nt b) S Q := by
  refine ⟨by omega, ?_⟩
  show Q (.int ((a : Int) % (b : Int))) S
  rw [← Int.natCast_emod]
  exact q
theorem n_mulS (h : b < 2 ^ 64) (q : Q (nt (a * b)) S) : opMul (nt a) (nt b) S Q := by
  refine ⟨.inl (.inr ⟨by omega, by omega⟩), ?_⟩
  show Q (.int ((a : Int) * (b : Int))) S
  rw [← Int.natCast_mul]
  exact q
/-- header >> bit & 1, as a test -/
theorem n_bit (q : Q (nt (a.testBit b).toNat) S) : opShr (nt a) (nt b) S (fun x S1 => opAnd x (.int 1) S1 Q) := by
  refine n_shr (n_and (a := a >>> b) (b := 1) ?_)
  have e : (a >>> b) &&& 1 = (a.testBit b).toNat := by
    rw [Nat.and_one_is_mod, Nat.testBit_eq_decide_div_mod_eq, Nat.shiftRight_eq_div_pow]
    rcases Nat.mod_two_eq_zero_or_one (a / 2 ^ b) with h | h <;> simp [h]
  rw [e]
  exact q
theorem n_tru {QB : Bool → Prop} (q : QB (!decide (a = 0))) : truD (nt a) S QB := by
  show QB ((a : Int) != 0)
  have e : ((a : Int) != 0) = !decide (a = 0) := by
    by_cases h : a = 0
    · subst h; rfl
    · have : ((a : Int) == 0) = false := by
        apply beq_eq_false_iff_ne.mpr
        omega
      simp [bne, this, h]
  rw [e]
  exact q
theorem n_truB {c : Bool} {QB : Bool → Prop} (q : QB c) : truD (nt c.toNat) S QB := n_tru (by cases c <;> exact q)
theorem n_eq {S : Sto} {Q : Q1} (q : Q (.bl (decide (a = b))) S) : cmpD .Eq (nt a) (nt b) S Q := by
  show Q (.bl (decide ((a : Int) = (b : Int)))) S
  have e : decide ((a : Int) = (b : Int)) = decide (a = b) := by rw [decide_eq_decide]; omega
  rw [e]; exact q
theorem n_ne {S : Sto} {Q : Q1} (q : Q (.bl (!decide (a = b))) S) : cmpD .NotEq (nt a) (nt b) S Q := by
  show Q (.bl (!decide ((a : Int) = (b : Int)))) S
  have e : decide ((a : Int) = (b : Int)) = decide (a = b) := by rw [decide_eq_decide]; omega
  rw [e]; exact q
theorem n_lt {S : Sto} {Q : Q1} (q : Q (.bl (decide (a < b))) S) : cmpD .Lt (nt a) (nt b) S Q := by
  show Q (.bl (decide ((a : Int) < (b : Int)))) S
  have e : decide ((a : Int) < (b : Int)) = decide (a < b) := by rw [decide_eq_decide]; omega
  rw [e]; exact q
theorem n_gt {S : Sto} {Q : Q1} (q : Q (.bl (decide (b < a))) S) : cmpD .Gt (nt a) (nt b) S Q := by
  show Q (.bl (decide ((b : Int) < (a : Int)))) S
  have e : decide ((b : Int) < (a : Int)) = decide (b < a) := by rw [decide_eq_decide]; omega
  rw [e]; exact q
end

/-! ### the store grows -/
def Ext (S S' : Sto) : Prop := ∀ (i : Nat) (o : O), S[i]? = some o → S'[i]? = some o
theorem Ext.refl (S : Sto) : Ext S S := fun _ _ h => h
theorem Ext.trans {S S1 S2 : Sto} (a : Ext S S1) (b : Ext S1 S2) : Ext S S2 := fun i o h => b i o (a i o h)
theorem Ext.push (S : Sto) (o : O) : Ext S (S ++ [o]) := fun i u h => by
  rw [List.getElem?_append_left (List.getElem?_eq_some_iff.mp h).1]
  exact h
theorem Ext.len {S S' : Sto} (h : Ext S S') : S.length ≤ S'.length := by
  apply Nat.le_of_not_lt
  intro z
  have := h S'.length S[S'.length] (List.getElem?_eq_getElem z)
  simp at this
theorem Ext.set {S S' : Sto} {n : Nat} {o : O} (h : Ext S S') (hn : S.length ≤ n) : Ext S (S'.set n o) := fun i u e => by
  have := (List.getElem?_eq_some_iff.mp e).1
  rw [List.getElem?_set_ne (by omega)]
  exact h i u e
theorem push_at {S : Sto} {o : O} : (S ++ [o])[S.length]? = some o := by simp
theorem set_at {S : Sto} {n : Nat} {o u : O} (h : S[n]? = some u) : (S.set n o)[n]? = some o := List.getElem?_set_self (List.getElem?_eq_some_iff.mp h).1
theorem set_ne {S : Sto} {n m : Nat} {o : O} (h : n ≠ m) : (S.set n o)[m]? = S[m]? := List.getElem?_set_ne h
/-- what follows, shown once -/
theorem sq_cut {x y : WS} {k : KK} {ρ : Rho} {S : Sto} (I : Rho → Sto → Prop) (h : ∀ N : Rho → Sto → Prop, (∀ ρ S, I ρ S → N ρ S) → x { k with nx := N } ρ S) (h2 : ∀ ρ S, I ρ S → y k ρ S) : wSq x y k ρ S := h _ h2
theorem if_cut {t : WT} {x y : WS} {k : KK} {ρ : Rho} {S : Sto} (h : t ρ S fun c S1 => if c = true then x k ρ S1 else y k ρ S1) : wIfS t x y k ρ S := h
section
variable {S : Sto} {Q : Q1} {n : Nat} {i : Int} {ds : List D} {d v : D}
theorem i_ref (h : S[n]? = some (.lst ds)) (e : atI ds i = some d) (q : Q d S) : idxD (.ref n) (.int i) S Q := by
  refine ⟨ds, h, ?_⟩
  rw [e]
  exact q
theorem i_tup (e : atI ds i = some d) (q : Q d S) : idxD (.tup ds) (.int i) S Q := by
  show gv (atI ds i) _
  rw [e]
  exact q
theorem i_set {j : Nat} {P : Sto → Prop} (h : S[n]? = some (.lst ds)) (e : ixN ds.length i = some j) (q : P (S.set n (.lst (ds.set j v)))) : setD (.ref n) (.int i) v S P := by
  refine ⟨ds, h, ?_⟩
  rw [e]
  exact q
end
/-- nothing but the object n is another -/
def Only1 (n : Nat) (S S' : Sto) : Prop := S'.length = S.length ∧ ∀ i, i ≠ n → S'[i]? = S[i]?
theorem Only1.refl (n : Nat) (S : Sto) : Only1 n S S := ⟨rfl, fun _ _ => rfl⟩
theorem Only1.trans {n : Nat} {S S1 S2 : Sto} (a : Only1 n S S1) (b : Only1 n S1 S2) : Only1 n S S2 := ⟨b.1.trans a.1, fun i h => (b.2 i h).trans (a.2 i h)⟩
theorem Only1.set {n : Nat} {S : Sto} {o : O} : Only1 n S (S.set n o) := ⟨List.length_set, fun i h => List.getElem?_set_ne (Ne.symm h)⟩
/-- the store grows, and the object n may be another -/
def ExtB (n : Nat) (S S' : Sto) : Prop := S.length ≤ S'.length ∧ ∀ (i : Nat) (o : O), i ≠ n → S[i]? = some o → S'[i]? = some o
theorem ExtB.refl (n : Nat) (S : Sto) : ExtB n S S := ⟨Nat.le_refl _, fun _ _ _ h => h⟩
theorem ExtB.trans {n : Nat} {S S1 S2 : Sto} (a : ExtB n S S1) (b : ExtB n S1 S2) : ExtB n S S2 := ⟨Nat.le_trans a.1 b.1, fun i o h e => b.2 i o h (a.2 i o h e)⟩
theorem Only1.ext {n : Nat} {S S' : Sto} (h : Only1 n S S') : ExtB n S S' := ⟨by rw [h.1]; exact Nat.le_refl _, fun i o hi e => by rw [h.2 i hi]; exact e⟩
theorem Ext.extB {n : Nat} {S S' : Sto} (h : Ext S S') : ExtB n S S' := ⟨h.len, fun i o _ e => h i o e⟩
theorem ExtB.push {n : Nat} {S : Sto} {o : O} : ExtB n S (S ++ [o]) := (Ext.push S o).extB
theorem ExtB.set {n m : Nat} {S S' : Sto} {o : O} (h : ExtB n S S') (hm : S.length ≤ m) : ExtB n S (S'.set m o) := ⟨by rw [List.length_set]; exact h.1, fun i u hi e => by
  have := (List.getElem?_eq_some_iff.mp e).1
  rw [List.getElem?_set_ne (by omega)]
  exact h.2 i u hi e⟩
section
variable {i j : Int} {S : Sto} {Q : Q1} {ds : List D} {n : Nat}
theorem c_int (q : Q (.int i) S) : intC [.int i] S Q := q
theorem i_ge (q : Q (.bl (decide (j ≤ i))) S) : cmpD .GtE (.int i) (.int j) S Q := q
theorem i_pow (h : CPow i j) (q : Q (.int (i ^ j.toNat)) S) : opPow (.int i) (.int j) S Q := ⟨h, q⟩
theorem c_tupT (q : Q (.tup ds) S) : tupleC [.tup ds] S Q := q
theorem c_tupL (h : S[n]? = some (.lst ds)) (q : Q (.tup ds) S) : tupleC [.ref n] S Q := ⟨ds, h, q⟩
theorem c_lstT (q : Q (.ref S.length) (S ++ [.lst ds])) : listC [.tup ds] S Q := q
theorem c_lstL (h : S[n]? = some (.lst ds)) (q : Q (.ref S.length) (S ++ [.lst ds])) : listC [.ref n] S Q := ⟨ds, h, q⟩
theorem c_lenT (q : Q (nt ds.length) S) : lenC [.tup ds] S Q := q
theorem c_lenL (h : S[n]? = some (.lst ds)) (q : Q (nt ds.length) S) : lenC [.ref n] S Q := ⟨ds, h, q⟩
theorem s_fro {lo hi : Option Int} (q : Q (.ref S.length) (S ++ [.lst (cutD ds lo hi)])) : slcD (.fro ds) lo hi S Q := q
theorem m_app {d : D} (h : S[n]? = some (.lst ds)) (hl : ds.length < sizeLine) (q : Q .non (S.set n (.lst (ds ++ [d])))) : appM (.ref n) [d] S Q := ⟨ds, h, hl, q⟩
end
theorem rd_wp0 {ρ : Rho} : wipeR ρ [] = ρ := rfl
theorem rd_wp1 {ρ : Rho} {v : Nat} {vs : List Nat} : wipeR ρ (v :: vs) = putR (wipeR ρ vs) v none := rfl
/-! two lists of naturals compared -/
theorem dp_nts {S : Sto} : ∀ xs : List Nat, DpAllD S (xs.map nt) (xs.map fun n : Nat => PyData.int (n : Int))
  | [] => .nil
  | x :: r => .cons (.int _) (dp_nts r)
theorem lay_nts : ∀ xs : List Nat, PyData.canLayAll0 (xs.map fun n : Nat => PyData.int (n : Int)) = true
  | [] => rfl
  | x :: r => by
    show (true && PyData.canLayAll0 (r.map fun n : Nat => PyData.int (n : Int))) = true
    rw [lay_nts r]; rfl
theorem dep_nts : ∀ xs : List Nat, PyData.depthAll (xs.map fun n : Nat => PyData.int (n : Int)) = 0
  | [] => rfl
  | x :: r => by
    show max 0 (PyData.depthAll (r.map fun n : Nat => PyData.int (n : Int))) = 0
    rw [dep_nts r]; rfl
theorem eqv_nts : ∀ xs ys : List Nat, PyData.eqvAll (xs.map fun n : Nat => PyData.int (n : Int)) (ys.map fun n : Nat => PyData.int (n : Int)) = decide (xs = ys)
  | [], [] => rfl
  | [], _ :: _ => rfl
  | _ :: _, [] => rfl
  | x :: xs, y :: ys => by
    show (((x : Int) == (y : Int)) && PyData.eqvAll (xs.map fun n : Nat => PyData.int (n : Int)) (ys.map fun n : Nat => PyData.int (n : Int))) = decide (x :: xs = y :: ys)
    rw [eqv_nts xs ys]
    rw [Bool.eq_iff_iff]
    simp only [Bool.and_eq_true, beq_iff_eq, decide_eq_true_eq, List.cons.injEq]
    constructor
    · rintro ⟨a, b⟩
      exact ⟨by omega, b⟩
    · rintro ⟨a, b⟩
      exact ⟨by omega, b⟩
theorem shp_lst (xs : List Nat) : SeqAt.shaped (.list (xs.map fun n : Nat => PyData.int (n : Int))) = true := by
  unfold SeqAt.shaped
  rw [Bool.and_eq_true_iff]
  refine ⟨lay_nts xs, decide_eq_true ?_⟩
  show PyData.depthAll (xs.map fun n : Nat => PyData.int (n : Int)) + 1 ≤ 64
  rw [dep_nts]
  decide
theorem eq_lists {S : Sto} {Q : Q1} {p q : Nat} {xs ys : List Nat} {neg : Bool} (h1 : S[p]? = some (.lst (xs.map nt))) (h2 : S[q]? = some (.lst (ys.map nt))) (k : Q (.bl (sg neg (decide (xs = ys)))) S) : cmpEq neg (.ref p) (.ref q) S Q := by
  refine ⟨_, _, .lst h1 (dp_nts xs), .lst h2 (dp_nts ys), shp_lst xs, shp_lst ys, ?_⟩
  show Q (.bl (sg neg (PyData.eqvAll _ _))) S
  rw [eqv_nts]
  exact k
theorem l_eq {S : Sto} {Q : Q1} {p q : Nat} {xs ys : List Nat} (h1 : S[p]? = some (.lst (xs.map nt))) (h2 : S[q]? = some (.lst (ys.map nt))) (k : Q (.bl (decide (xs = ys))) S) : cmpD .Eq (.ref p) (.ref q) S Q := eq_lists (neg := false) h1 h2 k
theorem l_ne {S : Sto} {Q : Q1} {p q : Nat} {xs ys : List Nat} (h1 : S[p]? = some (.lst (xs.map nt))) (h2 : S[q]? = some (.lst (ys.map nt))) (k : Q (.bl (!decide (xs = ys))) S) : cmpD .NotEq (.ref p) (.ref q) S Q := eq_lists (neg := true) h1 h2 k
theorem i_sset {n : Nat} {hs : List Nat} {S : Sto} {Q : Q1} (hn : S[n]? = some (.lst (hs.map nt))) (hl : hs.length ≤ 4000) (q : ∀ ms : List Nat, ms.Pairwise (· < ·) → (∀ k, k ∈ ms ↔ k ∈ hs) → Q (.ref S.length) (S ++ [.lst (ms.map nt)])) : ssetD (.ref n) S Q := by
  have e : hs.map nt = (hs.map fun h : Nat => (h : Int)).map D.int := by rw [List.map_map]; rfl
  refine ⟨hs.map fun h : Nat => (h : Int), by rw [← e]; exact hn, by rw [List.length_map]; exact hl, fun ms h1 h2 => ?_⟩
  have hpos : ∀ k ∈ ms, 0 ≤ k := fun k hk => by
    obtain ⟨h, _, rfl⟩ := List.mem_map.mp ((h2 k).mp hk)
    exact Int.natCast_nonneg h
  have e2 : ms.map D.int = (ms.map Int.toNat).map nt := by
    rw [List.map_map]
    refine List.map_congr_left fun k hk => ?_
    show D.int k = D.int (k.toNat : Int)
    rw [Int.toNat_of_nonneg (hpos k hk)]
  rw [e2]
  refine q _ ?_ fun k => ?_
  · rw [List.pairwise_map]
    exact List.Pairwise.imp_of_mem (fun {a b} ha hb h => by
      have := hpos a ha
      have := hpos b hb
      omega) h1
  · rw [List.mem_map]
    constructor
    · rintro ⟨a, ha, rfl⟩
      obtain ⟨h, hh, e⟩ := List.mem_map.mp ((h2 a).mp ha)
      subst e
      exact hh
    · intro hk
      exact ⟨(k : Int), (h2 _).mpr (List.mem_map.mpr ⟨k, hk, rfl⟩), Int.toNat_natCast k⟩
end WW


set_option Elab.async false
set_option linter.all false
set_option maxRecDepth 100000
set_option maxHeartbeats 4000000
set_option autoImplicit false
namespace WW
open PySem PySem.Spec PyProof.Rows L2
local macro_rules | `(tactic| walk_at "w") => `(tactic| try dsimp only [ap_var, ap_cst, ap_op, ap_neg, ap_notV, ap_andV, ap_orV, ap_chain, ap_if, ap_nil, ap_cons, ap_tup, ap_lst, ap_noP, ap_part, ap_slc, ap_call, ap_blt, ap_met, ap_bits, ap_tst, ap_tsB, ap_notB, ap_andB, ap_orB, ap_yes, ap_lc, ap_asg, ap_asgP, ap_set, ap_drop, ap_ret, ap_retN, ap_brk, ap_cnt, ap_pas, ap_sq, ap_ifS, ap_for, ap_seqI, ap_rng, ap_enum, look, putR, kkOf, rd_int, rd_bl, rd_T, rd_F, rd_nm, rd_tp, rd_nil, rd_cons, rd_gv, rd_trB, rd_srcT, rd_rng1, rd_rng2, rd_notT, rd_notF, rd_wp0, rd_wp1])
/- all_lot(width): slots width=0 -/
def c_all_lot : WS :=
  (wRet (wOp opSub (wOp opShl (wCst (.int 1)) (wOp opShl (wCst (.int 1)) (wVar 0))) (wCst (.int 1))))

/- zeros_lot(bit, width): slots bit=0 width=1 -/
def c_zeros_lot (p_all_lot : Spec) : WS :=
  (wRet (wOp opDiv (wCall 1 p_all_lot (wCons (wVar 1) wNil)) (wOp opAdd (wOp opShl (wCst (.int 1)) (wOp opShl (wCst (.int 1)) (wVar 0))) (wCst (.int 1)))))

/- lot_of(care, value, width): slots care=0 value=1 width=2 lot=3 bit=4 low=5 -/
def c_lot_of_1 (p_all_lot : Spec) (p_zeros_lot : Spec) : WS :=
  (wIfS (wTst (wOp opAnd (wOp opShr (wVar 0) (wVar 4)) (wCst (.int 1)))) (wSq (wAsg 5 (wOp opAnd (wVar 3) (wCall 2 p_zeros_lot (wCons (wVar 4) (wCons (wVar 2) wNil))))) (wAsg 3 (wIf (wTst (wOp opAnd (wOp opShr (wVar 1) (wVar 4)) (wCst (.int 1)))) (wOp opSub (wVar 3) (wVar 5)) (wVar 5)))) wPas)
def c_lot_of (p_all_lot : Spec) (p_zeros_lot : Spec) : WS :=
  (wSq (wAsg 3 (wCall 1 p_all_lot (wCons (wVar 2) wNil)))
  (wSq (wFor (wRng (wCons (wVar 2) wNil)) (.nm 4) (c_lot_of_1 p_all_lot p_zeros_lot))
  (wRet (wVar 3))))

/- lot_headers(lot): slots lot=0 found=1 rest=2 lowest=3 -/
def c_lot_headers_1 : WS :=
  (wSq (wAsg 3 (wOp opAnd (wVar 2) (wNeg (wVar 2))))
  (wSq (wDrop (wMet lstTy appM (wVar 1) (wCons (wOp opSub (wBits (wVar 3)) (wCst (.int 1))) wNil)))
  (wAsg 2 (wOp opSub (wVar 2) (wVar 3)))))
def c_lot_headers : WS :=
  (wSq (wAsg 1 (wLst wNil))
  (wSq (wAsg 2 (wVar 0))
  (wSq (wWhl (wTst (wVar 2)) c_lot_headers_1)
  (wRet (wBlt tupleC (wCons (wVar 1) wNil))))))

/- lot_count(lot): slots lot=0 many=1 rest=2 -/
def c_lot_count_1 : WS :=
  (wSq (wAsg 2 (wOp opAnd (wVar 2) (wOp opSub (wVar 2) (wCst (.int 1)))))
  (wAsg 1 (wOp opAdd (wVar 1) (wCst (.int 1)))))
def c_lot_count : WS :=
  (wSq (wAsg 1 (wCst (.int 0)))
  (wSq (wAsg 2 (wVar 0))
  (wSq (wWhl (wTst (wVar 2)) c_lot_count_1)
  (wRet (wVar 1)))))

/- least_header(lot): slots lot=0 -/
def c_least_header : WS :=
  (wSq (wIfS (wTsB (wOp (cmpD .Eq) (wVar 0) (wCst (.int 0)))) (wRet (wCst .non)) wPas)
  (wRet (wOp opSub (wBits (wOp opAnd (wVar 0) (wNeg (wVar 0)))) (wCst (.int 1)))))


/-! ### the lots' functions keep their promises -/
def sp_all_lot : Spec := fun ds S Q => ∃ w : Nat, ds = [nt w] ∧ w ≤ 13 ∧ Q (nt (allN w)) S
theorem pow13 {w : Nat} (h : w ≤ 13) : 2 ^ w ≤ 8192 := by
  have := Nat.pow_le_pow_right (show 0 < 2 by decide) h
  exact this
theorem good_all_lot : Good 1 1 c_all_lot sp_all_lot := by
  intro ds S Q _ h
  obtain ⟨w, rfl, hw, q⟩ := h
  show c_all_lot (kkOf Q) [some (nt w)] S
  unfold c_all_lot
  walk_at "w"
  have h1 := pow13 hw
  refine n_shl1 (by omega) (n_shl1 (by omega) (n_sub (b := 1) (Nat.two_pow_pos _) ?_))
  exact q
def sp_zeros_lot : Spec := fun ds S Q => ∃ b w : Nat, ds = [nt b, nt w] ∧ w ≤ 13 ∧ b < w ∧ Q (nt (zerosN b w)) S
theorem good_zeros_lot : Good 2 2 (c_zeros_lot sp_all_lot) sp_zeros_lot := by
  intro ds S Q _ h
  obtain ⟨b, w, rfl, hw, hb, q⟩ := h
  show c_zeros_lot sp_all_lot (kkOf Q) [some (nt b), some (nt w)] S
  unfold c_zeros_lot
  walk_at "w"
  have h1 := pow13 (show b ≤ 13 by omega)
  refine callI rfl ⟨w, rfl, hw, ?_⟩
  refine n_shl1 (by omega) (n_shl1 (by omega) (n_add (b := 1) (n_div (Nat.succ_pos _) ?_ ?_)))
  · have h2 : 2 ^ 2 ^ b ≤ 2 ^ 8192 := Nat.pow_le_pow_right (by decide) (by omega)
    have h3 : 2 ^ 8193 ≤ 2 ^ 8999 := Nat.pow_le_pow_right (by decide) (by decide)
    have h4 : 2 ^ 8193 = 2 ^ 8192 * 2 := Nat.pow_succ 2 8192
    have h5 := Nat.two_pow_pos 8192
    omega
  · rw [zeros_div hb]
    exact q
def sp_lot_of : Spec := fun ds S Q => ∃ c v w : Nat, ds = [nt c, nt v, nt w] ∧ w ≤ 13 ∧ Q (nt (lotN c v w)) S
theorem good_lot_of : Good 6 3 (c_lot_of sp_all_lot sp_zeros_lot) sp_lot_of := by
  intro ds S Q _ h
  obtain ⟨c, v, w, rfl, hw, q⟩ := h
  show c_lot_of sp_all_lot sp_zeros_lot (kkOf Q) [some (nt c), some (nt v), some (nt w), none, none, none] S
  unfold c_lot_of
  walk_at "w"
  refine callI rfl ⟨w, rfl, hw, ?_⟩
  refine ⟨by omega, ?_⟩
  rw [Int.toNat_natCast]
  refine forR (fun i ρ S' => S' = S ∧ ∃ x y, ρ = [some (nt c), some (nt v), some (nt w), some (nt (lotK c v w i)), x, y]) ⟨rfl, none, none, by rw [lotK_zero]⟩ (fun i ρ S' N hi hI hN => ?_) fun ρ S' hI => ?_
  · obtain ⟨rfl, x, y, rfl⟩ := hI
    rw [Int.zero_add]
    walk_at "w"
    unfold c_lot_of_1
    walk_at "w"
    refine n_bit (n_truB ?_)
    cases hc : c.testBit i with
    | false => exact hN _ _ ⟨rfl, _, _, by rw [← lotK_turn hc]⟩
    | true =>
      refine callI rfl ⟨i, w, rfl, hw, hi, n_and (n_bit (n_truB ?_))⟩
      cases hv : v.testBit i with
      | false => exact hN _ _ ⟨rfl, _, _, by rw [← lotK_turn0 hc hv]⟩
      | true =>
        obtain ⟨h1, h2⟩ := lotK_turn1 (w := w) hc hv
        walk_at "w"
        refine n_sub h1 ?_
        exact hN _ _ ⟨rfl, _, _, by rw [← h2]⟩
  · obtain ⟨rfl, x, y, rfl⟩ := hI
    exact q
theorem hd_getD {α : Type} (l : List α) (x : α) (r : List α) (h : l = x :: r) : l[0]? = some x := by rw [h]; rfl
/-- the loop of lot_headers: what is found, what is left -/
theorem low_neg {r : Nat} (h : 0 < r) : Builtin.bitAnd (r : Int) (-(r : Int)) = ((r - (r &&& (r - 1)) : Nat) : Int) := by
  rw [bitAnd_pn (Int.natCast_nonneg r) (by omega)]
  have e : (Builtin.bitNot (-(r : Int))).toNat = r - 1 := by
    unfold Builtin.bitNot
    omega
  rw [e, Int.toNat_natCast]
  have : r &&& (r - 1) ≤ r := Nat.and_le_left
  omega
def sp_lot_headers : Spec := fun ds S Q => ∃ L n : Nat, ds = [nt L] ∧ L < 2 ^ n ∧ n ≤ 100000 ∧ ∀ S', Ext S S' → Q (.tup ((hdrs n L).map nt)) S'
/-- what is left behind the first k headers -/
def above (L k : Nat) : Nat := L >>> k <<< k
theorem above_bit (L k i : Nat) : (above L k).testBit i = (decide (k ≤ i) && L.testBit i) := by
  unfold above
  rw [Nat.testBit_shiftLeft, Nat.testBit_shiftRight]
  by_cases h : k ≤ i
  · simp [h, show k + (i - k) = i by omega]
  · simp [h]
theorem above_zero (L : Nat) : above L 0 = L := by unfold above; simp
/-- from k to the next header j: nothing lies between -/
theorem hdrs_jump {L j : Nat} : ∀ (m k : Nat), k + m = j → (∀ i, k ≤ i → i < j → L.testBit i = false) → hdrs j L = hdrs k L
  | 0, k, h, _ => by rw [← h]; rfl
  | m + 1, k, h, g => by
    have h1 : hdrs (k + 1) L = hdrs k L := by
      rw [hdrs_succ, g k (Nat.le_refl _) (by omega)]
      simp
    rw [← h1]
    exact hdrs_jump m (k + 1) (by omega) fun i a b => g i (by omega) b
theorem hdrs_top {L k n : Nat} (h : above L k = 0) (hk : k ≤ n) : hdrs n L = hdrs k L := hdrs_jump (n - k) k (by omega) fun i a _ => by
  have := above_bit L k i
  rw [h] at this
  simp [a] at this
  exact this
/-- one turn: the lowest header of what is left -/
theorem above_turn {L k n : Nat} (hL : L < 2 ^ n) (h0 : above L k ≠ 0) : ∃ j, k ≤ j ∧ j < n ∧ L.testBit j = true ∧ hdrs j L = hdrs k L ∧ above L k &&& (above L k - 1) = above L k - 2 ^ j ∧ 2 ^ j ≤ above L k ∧ above L k - 2 ^ j = above L (j + 1) := by
  have hlt : above L k < 2 ^ n := lt_of_bits fun i hi => by rw [above_bit, bit_lt hL hi]; simp
  obtain ⟨j, j1, j2, j3, j4⟩ := and_pred n (above L k) hlt (by omega)
  have hk : k ≤ j ∧ L.testBit j = true := by
    rw [above_bit, Bool.and_eq_true_iff] at j2
    exact ⟨of_decide_eq_true j2.1, j2.2⟩
  have hz : ∀ i, k ≤ i → i < j → L.testBit i = false := fun i a b => by
    have := j3 i b
    rw [above_bit] at this
    simpa [a] using this
  refine ⟨j, hk.1, j1, hk.2, hdrs_jump (j - k) k (by omega) hz, j4, bit_low j2, ?_⟩
  apply bit_ext
  intro i
  rw [bit_take j2, above_bit, above_bit]
  by_cases e : j = i
  · subst e
    have : ¬ j + 1 ≤ j := by omega
    simp [this]
  · by_cases h1 : i < j
    · have h2 : ¬ j + 1 ≤ i := by omega
      by_cases h3 : k ≤ i
      · simp [h2, hz i h3 h1]
      · simp [h2, h3]
    · have h2 : j + 1 ≤ i := by omega
      have h3 : k ≤ i := by omega
      simp [e, h2, h3]
theorem sz_of' {n : Nat} (h : n ≤ 100000) : n < sizeLine := Nat.lt_of_le_of_lt h (by decide)
theorem good_lot_headers : Good 4 1 c_lot_headers sp_lot_headers := by
  intro ds S Q _ h
  obtain ⟨L, n, rfl, hL, hn, q⟩ := h
  show c_lot_headers (kkOf Q) [some (nt L), none, none, none] S
  unfold c_lot_headers
  walk_at "w"
  refine ⟨Nat.zero_le _, ?_⟩
  refine whl (fun m ρ S' => ∃ k x, k + m = n + 1 ∧ ρ = [some (nt L), some (.ref S.length), some (nt (above L k)), x] ∧ Ext S S' ∧ S'[S.length]? = some (.lst ((hdrs k L).map nt))) (n := n + 1)
    ⟨0, none, by omega, by rw [above_zero], Ext.push _ _, push_at⟩ (fun m ρ S' N hI hN => ?_)
  obtain ⟨k, x, hk, rfl, he, hs⟩ := hI
  walk_at "w"
  refine n_tru ?_
  by_cases h0 : above L k = 0
  · rw [h0]
    have hkn : hdrs n L = hdrs k L := by
      by_cases hl : k ≤ n
      · exact hdrs_top h0 hl
      · have e : k = n + 1 := by omega
        rw [e, hdrs_succ, bit_lt hL (Nat.le_refl n)]
        simp
    refine ⟨_, hs, ?_⟩
    rw [← hkn]
    exact q S' he
  · obtain ⟨j, j1, j2, j3, j4, j5, j6, j7⟩ := above_turn hL h0
    rw [show (!decide (above L k = 0)) = true by simp [h0], if_pos rfl]
    unfold c_lot_headers_1
    walk_at "w"
    show opAnd (nt (above L k)) (.int (-((above L k : Nat) : Int))) S' _
    have e1 : Builtin.bitAnd ((above L k : Nat) : Int) (-((above L k : Nat) : Int)) = ((2 ^ j : Nat) : Int) := by
      rw [low_neg (by omega), j5]
      congr 1
      have := Nat.two_pow_pos j
      omega
    have e2 : ∀ Q : Q1, Q (nt (2 ^ j)) S' → opAnd (nt (above L k)) (.int (-((above L k : Nat) : Int))) S' Q := fun Q q => by
      show Q (.int _) S'
      rw [e1]
      exact q
    refine e2 _ ⟨⟨_, hs⟩, ?_⟩
    walk_at "w"
    rw [bits_eq]
    refine n_sub (a := j + 1) (b := 1) (by omega) ⟨_, hs, by rw [List.length_map]; exact sz_of' (Nat.le_trans (hdrs_len_le k L) (by omega)), ?_⟩
    refine n_sub j6 ?_
    refine hN (m - (j + 1 - k)) _ _ (by omega) ⟨j + 1, _, by omega, by rw [j7], he.set (Nat.le_refl _), ?_⟩
    rw [set_at hs, hdrs_succ, j3, j4]
    simp
/-- the number of headers -/
def sp_lot_count : Spec := fun ds S Q => ∃ L n : Nat, ds = [nt L] ∧ L < 2 ^ n ∧ Q (nt (hdrs n L).length) S
theorem good_lot_count : Good 3 1 c_lot_count sp_lot_count := by
  intro ds S Q _ h
  obtain ⟨L, n, rfl, hL, q⟩ := h
  show c_lot_count (kkOf Q) [some (nt L), none, none] S
  unfold c_lot_count
  walk_at "w"
  refine whl (fun m ρ S' => ∃ k, k + m = n + 1 ∧ ρ = [some (nt L), some (nt (hdrs k L).length), some (nt (above L k))] ∧ S' = S) (n := n + 1)
    ⟨0, by omega, by rw [above_zero]; rfl, rfl⟩ (fun m ρ S' N hI hN => ?_)
  obtain ⟨k, hk, rfl, rfl⟩ := hI
  walk_at "w"
  refine n_tru ?_
  by_cases h0 : above L k = 0
  · rw [h0]
    have hkn : hdrs n L = hdrs k L := by
      by_cases hl : k ≤ n
      · exact hdrs_top h0 hl
      · have e : k = n + 1 := by omega
        rw [e, hdrs_succ, bit_lt hL (Nat.le_refl n)]
        simp
    rw [hkn] at q
    exact q
  · obtain ⟨j, j1, j2, j3, j4, j5, j6, j7⟩ := above_turn hL h0
    rw [show (!decide (above L k = 0)) = true by simp [h0], if_pos rfl]
    unfold c_lot_count_1
    walk_at "w"
    refine n_sub (a := above L k) (b := 1) (by omega) (n_and ?_)
    rw [j5, j7]
    refine n_add (b := 1) ?_
    refine hN (m - (j + 1 - k)) _ _ (by omega) ⟨j + 1, by omega, ?_, rfl⟩
    rw [hdrs_succ, j3, j4, if_pos rfl, List.length_append]
    rfl
/-- the least header, or None -/
def leastD : List Nat → D
  | [] => .non
  | h :: _ => nt h
def sp_least_header : Spec := fun ds S Q => ∃ L n : Nat, ds = [nt L] ∧ L < 2 ^ n ∧ Q (leastD (hdrs n L)) S
theorem good_least_header : Good 1 1 c_least_header sp_least_header := by
  intro ds S Q _ h
  obtain ⟨L, n, rfl, hL, q⟩ := h
  show c_least_header (kkOf Q) [some (nt L)] S
  unfold c_least_header
  walk_at "w"
  refine n_eq (b := 0) ?_
  walk_at "w"
  by_cases h0 : L = 0
  · subst h0
    rw [hdrs_zero] at q
    exact q
  · rw [show decide (L = 0) = false by simp [h0]]
    walk_at "w"
    have h1 : above L 0 ≠ 0 := by rw [above_zero]; exact h0
    obtain ⟨j, j1, j2, j3, j4, j5, j6, j7⟩ := above_turn hL h1
    rw [above_zero] at j5 j6 j7
    have e1 : Builtin.bitAnd (L : Int) (-(L : Int)) = ((2 ^ j : Nat) : Int) := by
      rw [low_neg (by omega), j5]
      congr 1
      have := Nat.two_pow_pos j
      omega
    have e2 : ∀ Q : Q1, Q (nt (2 ^ j)) S → opAnd (nt L) (.int (-(L : Int))) S Q := fun Q q => by
      show Q (.int _) S
      rw [e1]
      exact q
    refine e2 _ ?_
    walk_at "w"
    rw [bits_eq]
    refine n_sub (a := j + 1) (b := 1) (by omega) ?_
    have h3 : hdrs (j + 1) L = [j] := by
      rw [hdrs_succ, j3, j4]
      rfl
    have h4 : ∃ r, hdrs n L = j :: r := by
      have hp : ∀ m, ∃ r, hdrs (j + 1 + m) L = j :: r := by
        intro m
        induction m with
        | zero => exact ⟨[], h3⟩
        | succ m ih =>
          obtain ⟨r, e⟩ := ih
          rw [show j + 1 + (m + 1) = (j + 1 + m) + 1 by omega, hdrs_succ, e]
          exact ⟨_, rfl⟩
      obtain ⟨r, e⟩ := hp (n - (j + 1))
      rw [show j + 1 + (n - (j + 1)) = n by omega] at e
      exact ⟨r, e⟩
    obtain ⟨r, e⟩ := h4
    rw [e] at q
    exact q
end WW


set_option Elab.async false
set_option linter.all false
set_option maxRecDepth 100000
set_option maxHeartbeats 4000000
set_option autoImplicit false
namespace WW
open PySem PySem.Spec PyProof.Rows L2
local macro_rules | `(tactic| walk_at "w") => `(tactic| try dsimp only [ap_var, ap_cst, ap_op, ap_neg, ap_notV, ap_andV, ap_orV, ap_chain, ap_if, ap_nil, ap_cons, ap_tup, ap_lst, ap_noP, ap_part, ap_slc, ap_call, ap_blt, ap_met, ap_bits, ap_tst, ap_tsB, ap_notB, ap_andB, ap_orB, ap_yes, ap_lc, ap_asg, ap_asgP, ap_set, ap_drop, ap_ret, ap_retN, ap_brk, ap_cnt, ap_pas, ap_sq, ap_ifS, ap_for, ap_seqI, ap_rng, ap_enum, look, putR, kkOf, rd_int, rd_bl, rd_T, rd_F, rd_nm, rd_tp, rd_nil, rd_cons, rd_gv, rd_trB, rd_srcT, rd_rng1, rd_rng2, rd_notT, rd_notF, rd_wp0, rd_wp1])
/- _law_begin(script): slots script=0 -/
def c_law_begin : WS :=
  (wRet (wLst (wCons (wCst (.int 0)) (wCons (wCst (.int 0)) (wCons (wCst (.int 0)) (wCons (wCst (.int 0)) (wCons (wBlt listC (wCons (wSlc (wVar 0) wNoP (wPart (wCst (.int 63)))) wNil)) wNil)))))))

/- _law_draw(d, many): slots d=0 many=1 cell=2 number=3 digit=4 mixed=5 -/
def c_law_draw : WS :=
  (wSq (wIfS (wTsB (wOp (cmpD .Lt) (wVar 1) (wCst (.int 2)))) (wRet (wCst (.int 0))) wPas)
  (wSq (wIfS (wAndB (wTsB (wOp (cmpD .Eq) (wOp idxD (wVar 0) (wCst (.int 1))) (wCst (.int 0)))) (wTsB (wOp (cmpD .Lt) (wOp idxD (wVar 0) (wCst (.int 2))) (wBlt lenC (wCons (wOp idxD (wVar 0) (wCst (.int 4))) wNil))))) (wSq (wAsg 2 (wOp idxD (wOp idxD (wVar 0) (wCst (.int 4))) (wOp idxD (wVar 0) (wCst (.int 2))))) (wSq (wSet (wVar 0) (wCst (.int 2)) (wOp opAdd (wOp idxD (wVar 0) (wCst (.int 2))) (wCst (.int 1)))) (wSq (wAsg 3 (wIf (wTsB (wOp (cmpD .GtE) (wVar 2) (wCst (.int 0)))) (wVar 2) (wNeg (wVar 2)))) (wIfS (wTsB (wOp (cmpD .GtE) (wVar 3) (wOp opPow (wCst (.int 10)) (wCst (.int 18))))) (wSet (wVar 0) (wCst (.int 1)) (wVar 3)) (wSet (wVar 0) (wCst (.int 0)) (wOp opMod (wBlt intC (wCons (wOp opAdd (wOp opAdd (wOp opMul (wOp idxD (wVar 0) (wCst (.int 0))) (wCst (.int 69621))) (wOp opMul (wVar 3) (wCst (.int 48271)))) (wCst (.int 12345))) wNil)) (wCst (.int 2147483647)))))))) wPas)
  (wSq (wIfS (wTsB (wOp (cmpD .Gt) (wOp idxD (wVar 0) (wCst (.int 1))) (wCst (.int 0)))) (wSq (wAsg 4 (wOp opMod (wBlt intC (wCons (wOp idxD (wVar 0) (wCst (.int 1))) wNil)) (wVar 1))) (wSq (wSet (wVar 0) (wCst (.int 1)) (wOp opDiv (wOp idxD (wVar 0) (wCst (.int 1))) (wVar 1))) (wRet (wVar 4)))) wPas)
  (wSq (wSet (wVar 0) (wCst (.int 3)) (wOp opAdd (wOp idxD (wVar 0) (wCst (.int 3))) (wCst (.int 1))))
  (wSq (wSet (wVar 0) (wCst (.int 0)) (wOp opMod (wBlt intC (wCons (wOp opAdd (wOp opAdd (wOp opMul (wOp idxD (wVar 0) (wCst (.int 0))) (wCst (.int 48271))) (wOp opMul (wOp idxD (wVar 0) (wCst (.int 3))) (wCst (.int 7919)))) (wCst (.int 11))) wNil)) (wCst (.int 2147483647))))
  (wSq (wAsg 5 (wOp opMod (wBlt intC (wCons (wOp opAdd (wOp opMul (wOp idxD (wVar 0) (wCst (.int 0))) (wOp idxD (wVar 0) (wCst (.int 0)))) (wOp idxD (wVar 0) (wCst (.int 3)))) wNil)) (wCst (.int 2147483629))))
  (wRet (wOp opMod (wBlt intC (wCons (wOp opDiv (wVar 5) (wCst (.int 7))) wNil)) (wVar 1)))))))))

/- _law_rare(d, many): slots d=0 many=1 -/
def c_law_rare (p_law_draw : Spec) : WS :=
  (wRet (wOp (cmpD .Eq) (wCall 2 p_law_draw (wCons (wVar 0) (wCons (wVar 1) wNil))) (wOp opDiv (wVar 1) (wCst (.int 2)))))


/-! ### the law's own draws: what they hand back is in bounds, and no more is asked -/
structure DrawAt (S : Sto) (n a b c e m : Nat) (cs : List Int) : Prop where
  at_ : S[n]? = some (.lst [nt a, nt b, nt c, nt e, .ref m])
  cells : S[m]? = some (.lst (cs.map D.int))
  ne : n ≠ m
  small : a < 2147483647
def DrawS (S : Sto) (n : Nat) : Prop := ∃ a b c e m cs, DrawAt S n a b c e m cs
theorem DrawS.lt {S : Sto} {n : Nat} (h : DrawS S n) : n < S.length := by
  obtain ⟨a, b, c, e, m, cs, h⟩ := h
  exact (List.getElem?_eq_some_iff.mp h.at_).1
theorem DrawAt.set {S : Sto} {n a b c e m a' b' c' e' : Nat} {cs : List Int} (h : DrawAt S n a b c e m cs) (ha : a' < 2147483647) : DrawAt (S.set n (.lst [nt a', nt b', nt c', nt e', .ref m])) n a' b' c' e' m cs :=
  ⟨set_at h.at_, by rw [set_ne h.ne]; exact h.cells, h.ne, ha⟩
theorem DrawS.ext {S S' : Sto} {n : Nat} (h : DrawS S n) (e : Ext S S') : DrawS S' n := by
  obtain ⟨a, b, c, d, m, cs, h⟩ := h
  exact ⟨a, b, c, d, m, cs, e _ _ h.at_, e _ _ h.cells, h.ne, h.small⟩
theorem DrawS.setAbove {S : Sto} {n k : Nat} {o : O} (h : DrawS S n) (hk : ∀ m u, S[m]? = some u → m ≠ k) : DrawS (S.set k o) n := by
  obtain ⟨a, b, c, d, m, cs, h⟩ := h
  exact ⟨a, b, c, d, m, cs, by rw [set_ne (Ne.symm (hk _ _ h.at_))]; exact h.at_, by rw [set_ne (Ne.symm (hk _ _ h.cells))]; exact h.cells, h.ne, h.small⟩
def sp_law_begin : Spec := fun ds S Q => ∃ ns : List Int, ds = [.fro (ns.map D.int)] ∧ ∀ n S', S.length ≤ n → Ext S S' → DrawS S' n → Q (.ref n) S'
theorem good_law_begin : Good 1 1 c_law_begin sp_law_begin := by
  intro ds S Q _ h
  obtain ⟨ns, rfl, q⟩ := h
  show c_law_begin (kkOf Q) [some (.fro (ns.map D.int))] S
  unfold c_law_begin
  walk_at "w"
  refine s_fro (c_lstL push_at ⟨by show 5 ≤ sizeLine; decide, ?_⟩)
  have e : ∃ cs : List Int, cutD (ns.map D.int) none (some 63) = cs.map D.int := by
    unfold cutD
    rw [← List.map_drop, ← List.map_take]
    exact ⟨_, rfl⟩
  obtain ⟨cs, e⟩ := e
  rw [e]
  have e1 := Ext.push S (.lst (cs.map D.int))
  have e2 := Ext.push (S ++ [.lst (cs.map D.int)]) (.lst (cs.map D.int))
  have e3 := fun o => Ext.push (S ++ [.lst (cs.map D.int)] ++ [.lst (cs.map D.int)]) o
  refine q _ _ ?_ ((e1.trans e2).trans (e3 _)) ⟨0, 0, 0, 0, _, cs, push_at, e3 _ _ _ push_at, ?_, by decide⟩
  · simp
  · simp
def sp_law_draw : Spec := fun ds S Q => ∃ n many : Nat, ds = [.ref n, nt many] ∧ DrawS S n ∧ many < 2 ^ 8999 ∧ ∀ (r : Nat) S', (2 ≤ many → r < many) → (many < 2 → r = 0) → DrawS S' n → Only1 n S S' → Q (nt r) S'
theorem cell_at {cs : List Int} {c : Nat} (h : c < cs.length) : atI (cs.map D.int) (c : Int) = some (.int cs[c]) := by
  apply atI_nat
  rw [List.getElem?_map, List.getElem?_eq_getElem h]
  rfl
theorem good_law_draw : Good 6 2 c_law_draw sp_law_draw := by
  intro ds S Q _ h
  obtain ⟨n, many, rfl, hD, hm, q⟩ := h
  show c_law_draw (kkOf Q) [some (.ref n), some (nt many), none, none, none, none] S
  unfold c_law_draw
  refine sq_cut (fun ρ S' => S' = S ∧ 2 ≤ many ∧ ρ = [some (.ref n), some (nt many), none, none, none, none]) (fun N hN => ?_) (fun ρ S' hI => ?_)
  · walk_at "w"
    refine n_lt (b := 2) ?_
    walk_at "w"
    by_cases h : many < 2
    · rw [show decide (many < 2) = true by simp [h]]
      exact q 0 S (fun _ => by omega) (fun _ => rfl) hD (Only1.refl _ _)
    · rw [show decide (many < 2) = false by simp [h]]
      exact hN _ _ ⟨rfl, by omega, rfl⟩
  obtain ⟨rfl, h2, rfl⟩ := hI
  refine sq_cut (fun ρ S1 => DrawS S1 n ∧ Only1 n S' S1 ∧ ∃ x y, ρ = [some (.ref n), some (nt many), x, y, none, none]) (fun N hN => ?_) (fun ρ S1 hI => ?_)
  · obtain ⟨a, b, c, e, m, cs, hA⟩ := hD
    have skip : N [some (.ref n), some (nt many), none, none, none, none] S' := hN _ _ ⟨⟨a, b, c, e, m, cs, hA⟩, Only1.refl _ _, _, _, rfl⟩
    walk_at "w"
    refine i_ref hA.at_ rfl (n_eq (b := 0) ?_)
    walk_at "w"
    by_cases hb : b = 0
    · rw [show decide (b = 0) = true by simp [hb]]
      walk_at "w"
      refine i_ref hA.at_ rfl (i_ref hA.at_ rfl ⟨_, hA.cells, n_lt (a := c) ?_⟩)
      walk_at "w"
      rw [List.length_map]
      by_cases hc : c < cs.length
      · rw [show decide (c < cs.length) = true by simp [hc]]
        walk_at "w"
        refine i_ref hA.at_ rfl (i_ref hA.at_ rfl (i_ref hA.cells (cell_at hc) ?_))
        walk_at "w"
        refine i_ref hA.at_ rfl (n_add (a := c) (b := 1) (i_set (j := 2) hA.at_ rfl ?_))
        have hA1 := hA.set (b' := b) (c' := c + 1) (e' := e) hA.small
        -- the number of the cell
        have fin : ∀ k : Nat, opPow (.int 10) (.int 18) (S'.set n (.lst [nt a, nt b, nt (c + 1), nt e, .ref m])) (fun y S2 => cmpD .GtE (nt k) y S2 fun d S1 => isBl d fun b => if b = true then
            setD (.ref n) (.int 1) (nt k) S1 (fun S4 => N [some (.ref n), some (nt many), some (.int cs[c]), some (nt k), none, none] S4)
            else wSet (wVar 0) (wCst (.int 0)) (wOp opMod (wBlt intC (wCons (wOp opAdd (wOp opAdd (wOp opMul (wOp idxD (wVar 0) (wCst (.int 0))) (wCst (.int 69621))) (wOp opMul (wVar 3) (wCst (.int 48271)))) (wCst (.int 12345))) wNil)) (wCst (.int 2147483647))) { kkOf Q with nx := N } [some (.ref n), some (nt many), some (.int cs[c]), some (nt k), none, none] S1) := fun k => by
          refine i_pow ⟨by decide, by decide, by decide⟩ (i_ge ?_)
          walk_at "w"
          cases hk : decide ((10 : Int) ^ (18 : Int).toNat ≤ (k : Int)) with
          | true =>
            walk_at "w"
            refine i_set (j := 1) hA1.at_ rfl ?_
            exact hN _ _ ⟨⟨_, _, _, _, _, _, hA1.set (b' := k) (c' := c + 1) (e' := e) hA.small⟩, Only1.set.trans Only1.set, _, _, rfl⟩
          | false =>
            walk_at "w"
            refine i_ref hA1.at_ rfl (n_mulS (b := 69621) (by decide) (n_mulS (b := 48271) (by decide) (n_add (n_add (b := 12345) (c_int (n_mod (b := 2147483647) (by decide) ?_))))))
            refine i_set (j := 0) hA1.at_ rfl ?_
            exact hN _ _ ⟨⟨_, _, _, _, _, _, hA1.set (b' := b) (c' := c + 1) (e' := e) (Nat.mod_lt _ (by decide))⟩, Only1.set.trans Only1.set, _, _, rfl⟩
        refine i_ge ?_
        walk_at "w"
        cases hs : decide ((0 : Int) ≤ cs[c]) with
        | true =>
          walk_at "w"
          have e1 : D.int cs[c] = nt cs[c].toNat := by
            have := of_decide_eq_true hs
            show D.int cs[c] = D.int (cs[c].toNat : Int)
            rw [Int.toNat_of_nonneg this]
          have := fin cs[c].toNat
          rw [← e1] at this
          exact this
        | false =>
          walk_at "w"
          have e1 : D.int (-cs[c]) = nt (-cs[c]).toNat := by
            have := of_decide_eq_false hs
            show D.int (-cs[c]) = D.int ((-cs[c]).toNat : Int)
            rw [Int.toNat_of_nonneg (by omega)]
          have := fin (-cs[c]).toNat
          rw [← e1] at this
          exact this
      · rw [show decide (c < cs.length) = false by simp [hc]]
        exact skip
    · rw [show decide (b = 0) = false by simp [hb]]
      exact skip
  obtain ⟨hD1, ho, x, y, rfl⟩ := hI
  refine sq_cut (fun ρ S2 => S2 = S1 ∧ ρ = [some (.ref n), some (nt many), x, y, none, none]) (fun N hN => ?_) (fun ρ S2 hI => ?_)
  · obtain ⟨a, b, c, e, m, cs, hA⟩ := hD1
    walk_at "w"
    refine i_ref hA.at_ rfl (n_gt (a := b) (b := 0) ?_)
    walk_at "w"
    by_cases hb : 0 < b
    · rw [show decide (0 < b) = true by simp [hb]]
      walk_at "w"
      refine i_ref hA.at_ rfl (c_int (n_mod (by omega) ?_))
      refine i_ref hA.at_ rfl (n_div (by omega) hm (i_set (j := 1) hA.at_ rfl ?_))
      exact q _ _ (fun _ => Nat.mod_lt _ (by omega)) (fun z => by omega) ⟨_, _, _, _, _, _, hA.set (b' := b / many) (c' := c) (e' := e) hA.small⟩ (ho.trans Only1.set)
    · rw [show decide (0 < b) = false by simp [hb]]
      exact hN _ _ ⟨rfl, rfl⟩
  obtain ⟨rfl, rfl⟩ := hI
  obtain ⟨a, b, c, e, m, cs, hA⟩ := hD1
  walk_at "w"
  refine i_ref hA.at_ rfl (n_add (b := 1) (i_set (j := 3) hA.at_ rfl ?_))
  have hA1 := hA.set (b' := b) (c' := c) (e' := e + 1) hA.small
  refine i_ref hA1.at_ rfl (n_mulS (b := 48271) (by decide) (i_ref hA1.at_ rfl (n_mulS (b := 7919) (by decide) (n_add (n_add (b := 11) (c_int (n_mod (b := 2147483647) (by decide) (i_set (j := 0) hA1.at_ rfl ?_))))))))
  have hA2 := hA1.set (a' := (a * 48271 + (e + 1) * 7919 + 11) % 2147483647) (b' := b) (c' := c) (e' := e + 1) (Nat.mod_lt _ (by decide))
  refine i_ref hA2.at_ rfl (i_ref hA2.at_ rfl (n_mulS (Nat.lt_trans hA2.small (by decide)) (i_ref hA2.at_ rfl (n_add (c_int (n_mod (b := 2147483629) (by decide) ?_))))))
  refine n_div (b := 7) (by decide) (Nat.lt_of_lt_of_le (by decide : 7 < 2 ^ 3) (Nat.pow_le_pow_right (by decide) (by decide))) (c_int (n_mod (by omega) ?_))
  exact q _ _ (fun _ => Nat.mod_lt _ (by omega)) (fun z => by omega) ⟨_, _, _, _, _, _, hA2⟩ ((ho.trans Only1.set).trans Only1.set)
def sp_law_rare : Spec := fun ds S Q => ∃ n many : Nat, ds = [.ref n, nt many] ∧ DrawS S n ∧ many < 2 ^ 8999 ∧ ∀ (r : Bool) S', DrawS S' n → Only1 n S S' → Q (.bl r) S'
theorem good_law_rare : Good 2 2 (c_law_rare sp_law_draw) sp_law_rare := by
  intro ds S Q _ h
  obtain ⟨n, many, rfl, hD, hm, q⟩ := h
  show c_law_rare sp_law_draw (kkOf Q) [some (.ref n), some (nt many)] S
  unfold c_law_rare
  walk_at "w"
  refine callI rfl ⟨n, many, rfl, hD, hm, fun r S' h1 h2 h3 h4 => ?_⟩
  refine n_div (b := 2) (by decide) (Nat.lt_of_lt_of_le (by decide : 2 < 2 ^ 2) (Nat.pow_le_pow_right (by decide) (by decide))) (n_eq ?_)
  exact q _ _ h3 h4
end WW


set_option Elab.async false
set_option linter.all false
set_option maxRecDepth 100000
set_option maxHeartbeats 4000000
set_option autoImplicit false
namespace WW
open PySem PySem.Spec PyProof.Rows L2
local macro_rules | `(tactic| walk_at "w") => `(tactic| try dsimp only [ap_var, ap_cst, ap_op, ap_neg, ap_notV, ap_andV, ap_orV, ap_chain, ap_if, ap_nil, ap_cons, ap_tup, ap_lst, ap_noP, ap_part, ap_slc, ap_call, ap_blt, ap_met, ap_bits, ap_tst, ap_tsB, ap_notB, ap_andB, ap_orB, ap_yes, ap_lc, ap_asg, ap_asgP, ap_set, ap_drop, ap_ret, ap_retN, ap_brk, ap_cnt, ap_pas, ap_sq, ap_ifS, ap_for, ap_seqI, ap_rng, ap_enum, look, putR, kkOf, rd_int, rd_bl, rd_T, rd_F, rd_nm, rd_tp, rd_nil, rd_cons, rd_gv, rd_trB, rd_srcT, rd_rng1, rd_rng2, rd_notT, rd_notF, rd_wp0, rd_wp1])
/- _law_lot(headers): slots headers=0 lot=1 header=2 -/
def c_law_lot_1 : WS :=
  (wAsg 1 (wOp opOr (wVar 1) (wOp opShl (wCst (.int 1)) (wVar 2))))
def c_law_lot : WS :=
  (wSq (wAsg 1 (wCst (.int 0)))
  (wSq (wFor (wSeqI (wVar 0)) (.nm 2) c_law_lot_1)
  (wRet (wVar 1))))

/- _law_cube(d, bits): slots d=0 bits=1 care=2 -/
def c_law_cube (p_law_draw : Spec) : WS :=
  (wSq (wAsg 2 (wCall 2 p_law_draw (wCons (wVar 0) (wCons (wOp opShl (wCst (.int 1)) (wVar 1)) wNil))))
  (wRet (wTup (wCons (wVar 2) (wCons (wOp opAnd (wCall 2 p_law_draw (wCons (wVar 0) (wCons (wOp opShl (wCst (.int 1)) (wVar 1)) wNil))) (wVar 2)) wNil)))))


theorem ofL_snoc (hs : List Nat) (h : Nat) : ofL (hs ++ [h]) = ofL hs ||| 2 ^ h := by
  apply bit_ext
  intro i
  rw [Nat.testBit_or, ofL_bit, ofL_bit, bit_two_pow, Bool.eq_iff_iff]
  simp only [List.mem_append, List.mem_singleton, Bool.or_eq_true, decide_eq_true_eq]
  constructor
  · rintro (q | q)
    · exact .inl q
    · exact .inr q.symm
  · rintro (q | q)
    · exact .inl q
    · exact .inr q.symm

theorem take_succ {α : Type} {l : List α} {i : Nat} {x : α} (h : l[i]? = some x) : l.take (i + 1) = l.take i ++ [x] := by
  rw [List.take_add_one, h]
  rfl

theorem pow_big {k n : Nat} (h : k ≤ n) (hn : n ≤ 8999) : 2 ^ k ≤ 2 ^ 8999 := Nat.pow_le_pow_right (by decide) (by omega)
theorem lt_big {k n : Nat} (h : k < 2 ^ n) (hn : n ≤ 8999) : k < 2 ^ 8999 := Nat.lt_of_lt_of_le h (Nat.pow_le_pow_right (by decide) hn)

theorem draw_lt {r m : Nat} (h1 : 2 ≤ m → r < m) (h2 : m < 2 → r = 0) (h0 : 1 ≤ m) : r < m := by
  by_cases h : 2 ≤ m
  · exact h1 h
  · rw [h2 (by omega)]; exact h0
theorem and_and (a b : Nat) : (a &&& b) &&& b = a &&& b := by
  rw [Nat.and_assoc, Nat.and_self]

/-- ascending lists of headers that a comprehension over range(2^w) makes -/
def Asc (hs : List Nat) (k : Nat) : Prop := hs.Pairwise (· < ·) ∧ ∀ h ∈ hs, h < k
theorem Asc.nil (k : Nat) : Asc [] k := ⟨List.Pairwise.nil, fun _ h => nomatch h⟩
theorem Asc.snoc {hs : List Nat} {k : Nat} (h : Asc hs k) : Asc (hs ++ [k]) (k + 1) := by
  refine ⟨List.pairwise_append.mpr ⟨h.1, by simp, fun a ha b hb => ?_⟩, fun x hx => ?_⟩
  · rw [List.mem_singleton] at hb
    subst hb
    exact h.2 a ha
  · rcases List.mem_append.mp hx with q | q
    · exact Nat.lt_succ_of_lt (h.2 x q)
    · rw [List.mem_singleton] at q
      omega
theorem Asc.up {hs : List Nat} {k : Nat} (h : Asc hs k) : Asc hs (k + 1) := ⟨h.1, fun x hx => Nat.lt_succ_of_lt (h.2 x hx)⟩
theorem Asc.len {hs : List Nat} {k : Nat} (h : Asc hs k) : hs.length ≤ k := by
  have e : hdrs k (ofL hs) = hs := hdrs_ofL h.1 h.2
  rw [← e]
  exact hdrs_len_le _ _
theorem cube_list {c v w : Nat} (hc : c < 2 ^ w) (hv : v &&& c = v) : lotN c v w = ofL ((List.range (2 ^ w)).filter fun h => decide (h &&& c = v)) := bit_ext fun i => by
  rw [lot_bit hc hv, ofL_bit, Bool.eq_iff_iff]
  simp only [Bool.and_eq_true, decide_eq_true_eq, List.mem_filter, List.mem_range]
theorem filter_asc (k : Nat) (p : Nat → Bool) : Asc ((List.range k).filter p) k :=
  ⟨List.Pairwise.filter _ List.pairwise_lt_range, fun h hm => List.mem_range.mp (List.mem_filter.mp hm).1⟩
theorem filter_snoc (k : Nat) (p : Nat → Bool) : (List.range (k + 1)).filter p = (List.range k).filter p ++ if p k = true then [k] else [] := by
  rw [List.range_succ, List.filter_append]
  congr 1
  by_cases h : p k = true
  · simp [h]
  · simp [h]
theorem one_lot {h w : Nat} (hh : h < 2 ^ w) : lotN (2 ^ w - 1) h w = 2 ^ h := by
  have hm : h &&& (2 ^ w - 1) = h := by rw [Nat.and_two_pow_sub_one_eq_mod, Nat.mod_eq_of_lt hh]
  apply bit_ext
  intro i
  have hp := Nat.two_pow_pos w
  rw [lot_bit (by omega) hm, bit_two_pow, Bool.eq_iff_iff]
  simp only [Bool.and_eq_true, decide_eq_true_eq]
  constructor
  · rintro ⟨a, b⟩
    rw [Nat.and_two_pow_sub_one_eq_mod, Nat.mod_eq_of_lt a] at b
    exact b.symm
  · rintro rfl
    exact ⟨hh, hm⟩
theorem all_as_lot (w : Nat) : lotN 0 0 w = allN w := bit_ext fun i => by
  rw [lot_bit (Nat.two_pow_pos w) rfl, all_bit]
  simp
theorem count_all (w : Nat) : (hdrs (2 ^ w) (allN w)).length = 2 ^ w := by
  unfold hdrs
  rw [List.filter_eq_self.mpr fun a ha => by rw [all_bit]; exact decide_eq_true (List.mem_range.mp ha), List.length_range]
theorem sz_pow {l w : Nat} (h : l ≤ 2 ^ w) (hw : w ≤ 13) : l < sizeLine := sz_of' (by have := pow13 hw; omega)

def sp_law_lot : Spec := fun ds S Q => ∃ (n : Nat) (hs : List Nat), ds = [.ref n] ∧ S[n]? = some (.lst (hs.map nt)) ∧ (∀ h ∈ hs, h < 8192) ∧ Q (nt (ofL hs)) S
theorem good_law_lot : Good 3 1 c_law_lot sp_law_lot := by
  intro ds S Q _ h
  obtain ⟨n, hs, rfl, hn, hb, q⟩ := h
  show c_law_lot (kkOf Q) [some (.ref n), none, none] S
  unfold c_law_lot
  walk_at "w"
  refine ⟨_, hn, ?_⟩
  walk_at "w"
  refine forI (fun i ρ S' => S' = S ∧ ∃ x, ρ = [some (.ref n), some (nt (ofL (hs.take i))), x]) ⟨rfl, none, rfl⟩ (fun i d ρ S' N hd hI hN => ?_) (fun ρ S' hI => ?_)
  · obtain ⟨rfl, x, rfl⟩ := hI
    refine ⟨hn, ?_⟩
    rw [List.getElem?_map] at hd
    cases hx : hs[i]? with
    | none => rw [hx] at hd; cases hd
    | some h =>
      rw [hx] at hd
      cases hd
      walk_at "w"
      unfold c_law_lot_1
      walk_at "w"
      have hm : h ∈ hs := List.mem_of_getElem? hx
      have := hb h hm
      refine n_shl1 (by omega) (n_or ?_)
      exact hN _ _ ⟨rfl, some (nt h), by rw [take_succ hx, ofL_snoc]⟩
  · obtain ⟨rfl, x, rfl⟩ := hI
    refine ⟨hn, ?_⟩
    rw [List.length_map, List.take_length]
    exact q
def sp_law_cube : Spec := fun ds S Q => ∃ n bits : Nat, ds = [.ref n, nt bits] ∧ DrawS S n ∧ bits ≤ 13 ∧ ∀ (c v : Nat) S', c < 2 ^ bits → v &&& c = v → DrawS S' n → Only1 n S S' → Q (.tup [nt c, nt v]) S'
theorem good_law_cube : Good 3 2 (c_law_cube sp_law_draw) sp_law_cube := by
  intro ds S Q _ h
  obtain ⟨n, bits, rfl, hD, hb, q⟩ := h
  show c_law_cube sp_law_draw (kkOf Q) [some (.ref n), some (nt bits), none] S
  unfold c_law_cube
  walk_at "w"
  have hp := Nat.two_pow_pos bits
  have hl : 2 ^ bits < 2 ^ 8999 := Nat.pow_lt_pow_right (by decide) (by omega)
  refine n_shl1 (by omega) (callI rfl ⟨n, _, rfl, hD, hl, fun c S1 h1 h2 h3 h4 => ?_⟩)
  refine n_shl1 (by omega) (callI rfl ⟨n, _, rfl, h3, hl, fun v S2 g1 g2 g3 g4 => ?_⟩)
  refine n_and ⟨by show 2 ≤ sizeLine; decide, ?_⟩
  exact q _ _ _ (draw_lt h1 h2 hp) (and_and v c) g3 (h4.trans g4)

end WW


set_option autoImplicit false
set_option linter.all false
namespace WW
/-! ### settings -/
def putN (h c v : Nat) : Nat := h - (h &&& c) + v
theorem nat_bits {a b : Nat} : a = b ↔ ∀ i, a.testBit i = b.testBit i := ⟨fun h i => by rw [h], bit_ext⟩
theorem sub_and (h c : Nat) : (h &&& c) ≤ h ∧ ∀ i, (h - (h &&& c)).testBit i = (h.testBit i && !c.testBit i) := by
  obtain ⟨h1, h2⟩ := bit_sub (a := h) (b := h &&& c) fun i e => by
    rw [Nat.testBit_and] at e
    exact (Bool.and_eq_true_iff.mp e).1
  refine ⟨h1, fun i => ?_⟩
  rw [h2, Nat.testBit_and]
  cases h.testBit i <;> cases c.testBit i <;> rfl
theorem sub_bits {v c : Nat} (hv : v &&& c = v) (i : Nat) : v.testBit i = true → c.testBit i = true := fun e => by
  have := nat_bits.mp hv i
  rw [Nat.testBit_and, e] at this
  simpa using this
theorem put_bit {h c v : Nat} (hv : v &&& c = v) (i : Nat) : (putN h c v).testBit i = bif c.testBit i then v.testBit i else h.testBit i := by
  unfold putN
  have s := sub_bits hv
  rw [bit_add (fun j => by
    rw [(sub_and h c).2]
    have := s j
    cases hc : c.testBit j <;> cases hvj : v.testBit j <;> cases h.testBit j <;> simp_all), (sub_and h c).2]
  have := s i
  cases hc : c.testBit i <;> cases hvj : v.testBit i <;> cases h.testBit i <;> simp_all
theorem put_lt {h c v w : Nat} (hv : v &&& c = v) (hc : c < 2 ^ w) (hh : h < 2 ^ w) : putN h c v < 2 ^ w := lt_of_bits fun i hi => by
  rw [put_bit hv, bit_lt hc hi, bit_lt hh hi]
  rfl
theorem and_eq {h c v : Nat} : h &&& c = v ↔ ∀ i, (h.testBit i && c.testBit i) = v.testBit i := by
  rw [nat_bits]
  constructor
  · intro q i
    rw [← Nat.testBit_and, q i]
  · intro q i
    rw [Nat.testBit_and, q i]
theorem and_sub {a b c : Nat} : (a &&& (b &&& c)) &&& b = a &&& (b &&& c) := by
  rw [nat_bits]
  intro i
  simp only [Nat.testBit_and]
  cases a.testBit i <;> cases b.testBit i <;> cases c.testBit i <;> rfl
/-! fits -/
theorem fits_none {c v sc sv : Nat} (hv : v &&& c = v) (hs : sv &&& sc = sv) (hne : v &&& (c &&& sc) ≠ sv &&& (c &&& sc)) (h : Nat) : putN h sc sv &&& c ≠ v := fun e => hne (by
  rw [and_eq] at e
  rw [nat_bits]
  intro i
  have := e i
  rw [put_bit hs] at this
  have := sub_bits hv i
  simp only [Nat.testBit_and]
  cases hc : c.testBit i <;> cases hsc : sc.testBit i <;> simp_all)
theorem fits_some {c v sc sv : Nat} (hv : v &&& c = v) (hs : sv &&& sc = sv) (he : v &&& (c &&& sc) = sv &&& (c &&& sc)) (h : Nat) : putN h sc sv &&& c = v ↔ h &&& (c - (c &&& sc)) = v &&& (c - (c &&& sc)) := by
  rw [and_eq, and_eq]
  rw [nat_bits] at he
  refine forall_congr' fun i => ?_
  have e := he i
  have b1 := sub_bits hv i
  have b2 := sub_bits hs i
  rw [put_bit hs, Nat.testBit_and, (sub_and c sc).2]
  simp only [Nat.testBit_and] at e
  cases hc : c.testBit i <;> cases hsc : sc.testBit i <;> cases hvi : v.testBit i <;> cases hsv : sv.testBit i <;> cases h.testBit i <;> simp_all
/-! agree -/
theorem agree_none {c v d u : Nat} (hv : v &&& c = v) (hu : u &&& d = u) (hne : (v ^^^ u) &&& c &&& d ≠ 0) (h : Nat) : putN h c v ≠ putN h d u := fun e => hne (by
  rw [nat_bits] at e ⊢
  intro i
  have := e i
  rw [put_bit hv, put_bit hu] at this
  simp only [Nat.testBit_and, Nat.testBit_xor, Nat.zero_testBit]
  cases hc : c.testBit i <;> cases hd : d.testBit i <;> cases hvi : v.testBit i <;> cases hui : u.testBit i <;> simp_all)
theorem agree_some {c v d u : Nat} (hv : v &&& c = v) (hu : u &&& d = u) (he : (v ^^^ u) &&& c &&& d = 0) (h : Nat) : putN h c v = putN h d u ↔ h &&& (c ^^^ d) = (v ||| u) &&& (c ^^^ d) := by
  rw [and_eq, nat_bits]
  rw [nat_bits] at he
  refine forall_congr' fun i => ?_
  have e := he i
  have b1 := sub_bits hv i
  have b2 := sub_bits hu i
  rw [put_bit hv, put_bit hu]
  simp only [Nat.testBit_and, Nat.testBit_xor, Nat.testBit_or, Nat.zero_testBit] at e ⊢
  cases hc : c.testBit i <;> cases hd : d.testBit i <;> cases hvi : v.testBit i <;> cases hui : u.testBit i <;> cases h.testBit i <;> simp_all
/-! origin: the headers of which a setting makes one of the lot; below bit k the setting is done, above it must fit -/
def low (k c : Nat) : Nat := c &&& (2 ^ k - 1)
theorem low_bit (k c i : Nat) : (low k c).testBit i = (c.testBit i && decide (i < k)) := by
  unfold low
  rw [Nat.testBit_and, Nat.testBit_two_pow_sub_one]
theorem low_sub {k c v : Nat} (hv : v &&& c = v) : low k v &&& low k c = low k v := by
  rw [nat_bits]
  intro i
  have := sub_bits hv i
  rw [Nat.testBit_and, low_bit, low_bit]
  cases hc : c.testBit i <;> cases hvi : v.testBit i <;> cases decide (i < k) <;> simp_all
theorem low_all {w c : Nat} (h : c < 2 ^ w) : low w c = c := by
  rw [nat_bits]
  intro i
  rw [low_bit]
  by_cases hi : i < w
  · simp [hi]
  · rw [bit_lt h (Nat.le_of_not_lt hi)]
    rfl
theorem low_zero (c : Nat) : low 0 c = 0 := by
  rw [nat_bits]
  intro i
  rw [low_bit]
  simp
/-- from bit k on the header fits -/
def fitA (c v w k h : Nat) : Bool := (List.range w).all fun b => decide (b < k) || !c.testBit b || (h.testBit b == v.testBit b)
theorem fitA_iff {c v w k h : Nat} : fitA c v w k h = true ↔ ∀ b, b < w → k ≤ b → c.testBit b = true → h.testBit b = v.testBit b := by
  unfold fitA
  rw [List.all_eq_true]
  constructor
  · intro q b hb hk hc
    have := q b (List.mem_range.mpr hb)
    rw [hc, decide_eq_false (by omega : ¬ b < k)] at this
    simpa using this
  · intro q b hb
    by_cases hk : b < k
    · simp [hk]
    · cases hc : c.testBit b with
      | false => simp
      | true =>
        rw [q b (List.mem_range.mp hb) (by omega) hc]
        simp
def orgK (L c v w k : Nat) : Nat := mk (2 ^ w) fun h => L.testBit (putN h (low k c) (low k v)) && fitA c v w k h
theorem org_bit (L c v w k h : Nat) : (orgK L c v w k).testBit h = (decide (h < 2 ^ w) && (L.testBit (putN h (low k c) (low k v)) && fitA c v w k h)) := mk_bit ..
theorem org_zero {L c v w : Nat} : L &&& lotN c v w = orgK L c v w 0 := by
  rw [nat_bits]
  intro h
  rw [Nat.testBit_and, org_bit]
  unfold lotN
  rw [lotK_bit]
  have e : putN h (low 0 c) (low 0 v) = h := by
    rw [low_zero, low_zero]
    unfold putN
    simp
  have f : fitA c v w 0 h = fitB c v w h := by
    rw [Bool.eq_iff_iff, fitA_iff, fitB_iff]
    exact ⟨fun q b hb hc => q b hb (Nat.zero_le _) hc, fun q b hb _ hc => q b hb hc⟩
  rw [e, f]
  cases decide (h < 2 ^ w) <;> cases L.testBit h <;> simp
theorem org_end {L c v w : Nat} (hc : c < 2 ^ w) (hv : v < 2 ^ w) (h : Nat) : (orgK L c v w w).testBit h = (decide (h < 2 ^ w) && L.testBit (putN h c v)) := by
  rw [org_bit, low_all hc, low_all hv]
  have f : fitA c v w w h = true := by
    rw [fitA_iff]
    intro b hb hk
    omega
  rw [f, Bool.and_true]
/-- the header with bit k as the value says -/
theorem put_low_same {h c v k : Nat} (hv : v &&& c = v) (hc : c.testBit k = true) (hb : h.testBit k = v.testBit k) : putN h (low (k + 1) c) (low (k + 1) v) = putN h (low k c) (low k v) := by
  rw [nat_bits]
  intro i
  rw [put_bit (low_sub hv), put_bit (low_sub hv)]
  simp only [low_bit]
  by_cases e : i = k
  · subst e
    simp [hc, hb]
  · have : decide (i < k + 1) = decide (i < k) := by rw [decide_eq_decide]; omega
    rw [this]
theorem put_low_no {h c v k : Nat} (hv : v &&& c = v) (hc : c.testBit k = false) : putN h (low (k + 1) c) (low (k + 1) v) = putN h (low k c) (low k v) := by
  have hvk : v.testBit k = false := by
    cases hv' : v.testBit k with
    | false => rfl
    | true => rw [sub_bits hv k hv'] at hc; cases hc
  rw [nat_bits]
  intro i
  rw [put_bit (low_sub hv), put_bit (low_sub hv)]
  simp only [low_bit]
  by_cases e : i = k
  · subst e
    simp [hc]
  · have : decide (i < k + 1) = decide (i < k) := by rw [decide_eq_decide]; omega
    rw [this]
theorem fitA_succ {c v w k h : Nat} (hk : k < w) : fitA c v w k h = (fitA c v w (k + 1) h && (!c.testBit k || (h.testBit k == v.testBit k))) := by
  rw [Bool.eq_iff_iff, Bool.and_eq_true_iff, fitA_iff, fitA_iff]
  constructor
  · intro q
    refine ⟨fun b hb h1 hc => q b hb (by omega) hc, ?_⟩
    cases hc : c.testBit k with
    | false => rfl
    | true =>
      rw [q k hk (Nat.le_refl _) hc]
      simp
  · rintro ⟨q1, q2⟩ b hb h1 hc
    by_cases e : b = k
    · subst e
      rw [hc] at q2
      simpa using q2
    · exact q1 b hb (by omega) hc
/-- a header and its flip at bit k -/
theorem flip_up {h k : Nat} (hb : h.testBit k = false) (i : Nat) (hi : i ≠ k) : (h + 2 ^ k).testBit i = h.testBit i := by
  rw [bit_give hb]
  simp [Ne.symm hi]
theorem flip_dn {h k : Nat} (hb : h.testBit k = true) (i : Nat) (hi : i ≠ k) : (h - 2 ^ k).testBit i = h.testBit i := by
  rw [bit_take hb]
  simp [Ne.symm hi]
theorem fitA_flip {c v w k h g : Nat} (e : ∀ i, i ≠ k → g.testBit i = h.testBit i) : fitA c v w (k + 1) g = fitA c v w (k + 1) h := by
  rw [Bool.eq_iff_iff, fitA_iff, fitA_iff]
  constructor
  · intro q b hb h1 hc
    rw [← e b (by omega)]
    exact q b hb h1 hc
  · intro q b hb h1 hc
    rw [e b (by omega)]
    exact q b hb h1 hc
theorem put_flip {c v k h g : Nat} (hv : v &&& c = v) (hc : c.testBit k = true) (e : ∀ i, i ≠ k → g.testBit i = h.testBit i) : putN g (low (k + 1) c) (low (k + 1) v) = putN h (low (k + 1) c) (low (k + 1) v) := by
  rw [nat_bits]
  intro i
  rw [put_bit (low_sub hv), put_bit (low_sub hv)]
  by_cases hi : i = k
  · subst hi
    simp [low_bit, hc]
  · rw [e i hi]
theorem lt_flip {k w h g : Nat} (hk : k < w) (e : ∀ i, i ≠ k → g.testBit i = h.testBit i) (hh : h < 2 ^ w) : g < 2 ^ w := lt_of_bits fun i hi => by
  rw [e i (by omega)]
  exact bit_lt hh hi
theorem org_no {L c v w k : Nat} (hv : v &&& c = v) (hk : k < w) (hc : c.testBit k = false) : orgK L c v w k = orgK L c v w (k + 1) := by
  rw [nat_bits]
  intro h
  rw [org_bit, org_bit, put_low_no hv hc, fitA_succ hk, hc]
  simp
theorem org_one {L c v w k : Nat} (hv : v &&& c = v) (hk : k < w) (hc : c.testBit k = true) (hvk : v.testBit k = true) : orgK L c v w k ||| orgK L c v w k >>> 2 ^ k = orgK L c v w (k + 1) := by
  rw [nat_bits]
  intro h
  rw [Nat.testBit_or, Nat.testBit_shiftRight, Nat.add_comm (2 ^ k) h, org_bit, org_bit, org_bit, fitA_succ hk, fitA_succ (h := h + 2 ^ k) hk, hc, hvk]
  cases hb : h.testBit k with
  | true =>
    have h2 : (h + 2 ^ k).testBit k = false := by
      rw [Nat.add_comm, Nat.testBit_two_pow_add_eq, hb]
      rfl
    rw [h2, put_low_same hv hc (by rw [hb, hvk])]
    simp
  | false =>
    have h2 : (h + 2 ^ k).testBit k = true := by rw [bit_give hb]; simp
    have hp := Nat.two_pow_pos k
    have h3 := flip_up hb
    have h4 : decide (h + 2 ^ k < 2 ^ w) = decide (h < 2 ^ w) := by
      rw [decide_eq_decide]
      exact ⟨fun q => by omega, fun q => lt_flip hk h3 q⟩
    rw [h2, ← put_low_same (h := h + 2 ^ k) hv hc (by rw [h2, hvk]), put_flip hv hc h3, fitA_flip h3, h4]
    simp
theorem org_nul {L c v w k : Nat} (hv : v &&& c = v) (hk : k < w) (hc : c.testBit k = true) (hvk : v.testBit k = false) : orgK L c v w k ||| orgK L c v w k * 2 ^ 2 ^ k = orgK L c v w (k + 1) := by
  rw [nat_bits]
  intro h
  rw [Nat.testBit_or, Nat.testBit_mul_two_pow, org_bit, org_bit, org_bit, fitA_succ hk, fitA_succ (h := h - 2 ^ k) hk, hc, hvk]
  cases hb : h.testBit k with
  | true =>
    have h1 : 2 ^ k ≤ h := bit_low hb
    have hp := Nat.two_pow_pos k
    have h2 : (h - 2 ^ k).testBit k = false := by rw [bit_take hb]; simp
    have h3 := flip_dn hb
    have h4 : decide (h - 2 ^ k < 2 ^ w) = decide (h < 2 ^ w) := by
      rw [decide_eq_decide]
      exact ⟨fun q => lt_flip hk (fun i hi => (h3 i hi).symm) q, fun q => by omega⟩
    rw [h2, ← put_low_same (h := h - 2 ^ k) hv hc (by rw [h2, hvk]), put_flip hv hc h3, fitA_flip h3, h4]
    simp [h1]
  | false =>
    by_cases h1 : 2 ^ k ≤ h
    · have h2 : (h - 2 ^ k).testBit k = true := by
        have := Nat.testBit_two_pow_add_eq (h - 2 ^ k) k
        rw [show 2 ^ k + (h - 2 ^ k) = h by omega, hb] at this
        simpa using this
      rw [h2, put_low_same hv hc (by rw [hb, hvk])]
      simp
    · rw [put_low_same hv hc (by rw [hb, hvk])]
      simp [h1]
end WW


set_option Elab.async false
set_option linter.all false
set_option maxRecDepth 100000
set_option maxHeartbeats 4000000
set_option autoImplicit false
namespace WW
open PySem PySem.Spec PyProof.Rows L2
local macro_rules | `(tactic| walk_at "w") => `(tactic| try dsimp only [ap_var, ap_cst, ap_op, ap_neg, ap_notV, ap_andV, ap_orV, ap_chain, ap_if, ap_nil, ap_cons, ap_tup, ap_lst, ap_noP, ap_part, ap_slc, ap_call, ap_blt, ap_met, ap_bits, ap_tst, ap_tsB, ap_notB, ap_andB, ap_orB, ap_yes, ap_lc, ap_asg, ap_asgP, ap_set, ap_drop, ap_ret, ap_retN, ap_brk, ap_cnt, ap_pas, ap_sq, ap_ifS, ap_for, ap_seqI, ap_rng, ap_enum, look, putR, kkOf, rd_int, rd_bl, rd_T, rd_F, rd_nm, rd_tp, rd_nil, rd_cons, rd_gv, rd_trB, rd_srcT, rd_rng1, rd_rng2, rd_notT, rd_notF, rd_wp0, rd_wp1])
/- set_header(header, care, value): slots header=0 care=1 value=2 -/
def c_set_header : WS :=
  (wRet (wOp opAdd (wOp opSub (wVar 0) (wOp opAnd (wVar 0) (wVar 1))) (wVar 2)))

/- then_set(first, second): slots first=0 second=1 care=2 value=3 later=4 worth=5 -/
def c_then_set : WS :=
  (wSq (wAsgP (.tp [2, 3]) (wVar 0))
  (wSq (wAsgP (.tp [4, 5]) (wVar 1))
  (wRet (wTup (wCons (wOp opOr (wVar 2) (wVar 4)) (wCons (wOp opAdd (wOp opSub (wVar 3) (wOp opAnd (wVar 3) (wVar 4))) (wVar 5)) wNil))))))

/- origin(lot, care, value, width): slots lot=0 care=1 value=2 width=3 bit=4 size=5 -/
def c_origin_1 (p_lot_of : Spec) : WS :=
  (wIfS (wTst (wOp opAnd (wOp opShr (wVar 1) (wVar 4)) (wCst (.int 1)))) (wSq (wAsg 5 (wOp opShl (wCst (.int 1)) (wVar 4))) (wAsg 0 (wIf (wTst (wOp opAnd (wOp opShr (wVar 2) (wVar 4)) (wCst (.int 1)))) (wOp opOr (wVar 0) (wOp opShr (wVar 0) (wVar 5))) (wOp opOr (wVar 0) (wOp opShl (wVar 0) (wVar 5)))))) wPas)
def c_origin (p_lot_of : Spec) : WS :=
  (wSq (wAsg 0 (wOp opAnd (wVar 0) (wCall 3 p_lot_of (wCons (wVar 1) (wCons (wVar 2) (wCons (wVar 3) wNil))))))
  (wSq (wFor (wRng (wCons (wVar 3) wNil)) (.nm 4) (c_origin_1 p_lot_of))
  (wRet (wVar 0))))


/- fits_lot(cube, setting, width): slots cube=0 setting=1 width=2 care=3 value=4 set_care=5 set_value=6 common=7 rest=8 -/
def c_fits_lot (p_lot_of : Spec) : WS :=
  (wSq (wAsgP (.tp [3, 4]) (wVar 0))
  (wSq (wAsgP (.tp [5, 6]) (wVar 1))
  (wSq (wAsg 7 (wOp opAnd (wVar 3) (wVar 5)))
  (wSq (wIfS (wTsB (wOp (cmpD .NotEq) (wOp opAnd (wVar 4) (wVar 7)) (wOp opAnd (wVar 6) (wVar 7)))) (wRet (wCst (.int 0))) wPas)
  (wSq (wAsg 8 (wOp opSub (wVar 3) (wVar 7)))
  (wRet (wCall 3 p_lot_of (wCons (wVar 8) (wCons (wOp opAnd (wVar 4) (wVar 8)) (wCons (wVar 2) wNil))))))))))

/- agree_lot(setting, other, width): slots setting=0 other=1 width=2 care=3 value=4 other_care=5 other_value=6 single=7 -/
def c_agree_lot (p_lot_of : Spec) : WS :=
  (wSq (wAsgP (.tp [3, 4]) (wVar 0))
  (wSq (wAsgP (.tp [5, 6]) (wVar 1))
  (wSq (wIfS (wTst (wOp opAnd (wOp opAnd (wOp opXor (wVar 4) (wVar 6)) (wVar 3)) (wVar 5))) (wRet (wCst (.int 0))) wPas)
  (wSq (wAsg 7 (wOp opXor (wVar 3) (wVar 5)))
  (wRet (wCall 3 p_lot_of (wCons (wVar 7) (wCons (wOp opAnd (wOp opOr (wVar 4) (wVar 6)) (wVar 7)) (wCons (wVar 2) wNil)))))))))


/-! ### settings keep their promises -/
def sp_set_header : Spec := fun ds S Q => ∃ h c v : Nat, ds = [nt h, nt c, nt v] ∧ Q (nt (putN h c v)) S
theorem good_set_header : Good 3 3 c_set_header sp_set_header := by
  intro ds S Q _ h
  obtain ⟨h, c, v, rfl, q⟩ := h
  show c_set_header (kkOf Q) [some (nt h), some (nt c), some (nt v)] S
  unfold c_set_header
  walk_at "w"
  exact n_and (n_sub (sub_and h c).1 (n_add q))
def sp_then_set : Spec := fun ds S Q => ∃ c v d u : Nat, ds = [.tup [nt c, nt v], .tup [nt d, nt u]] ∧ Q (.tup [nt (c ||| d), nt (putN v d u)]) S
theorem good_then_set : Good 6 2 c_then_set sp_then_set := by
  intro ds S Q _ h
  obtain ⟨c, v, d, u, rfl, q⟩ := h
  show c_then_set (kkOf Q) [some (.tup [nt c, nt v]), some (.tup [nt d, nt u]), none, none, none, none] S
  unfold c_then_set
  walk_at "w"
  exact n_or (n_and (n_sub (sub_and v d).1 (n_add ⟨by show 2 ≤ sizeLine; decide, q⟩)))
def sp_origin : Spec := fun ds S Q => ∃ L c v w : Nat, ds = [nt L, nt c, nt v, nt w] ∧ w ≤ 13 ∧ c < 2 ^ w ∧ v &&& c = v ∧ Q (nt (orgK L c v w w)) S
theorem org_lt (L c v w k : Nat) : orgK L c v w k < 2 ^ 2 ^ w := mk_lt ..
theorem good_origin : Good 6 4 (c_origin sp_lot_of) sp_origin := by
  intro ds S Q _ h
  obtain ⟨L, c, v, w, rfl, hw, hc, hv, q⟩ := h
  show c_origin sp_lot_of (kkOf Q) [some (nt L), some (nt c), some (nt v), some (nt w), none, none] S
  unfold c_origin
  walk_at "w"
  refine callI rfl ⟨c, v, w, rfl, hw, n_and ⟨by omega, ?_⟩⟩
  rw [Int.toNat_natCast, org_zero]
  have hp := pow13 hw
  refine forR (fun i ρ S' => S' = S ∧ ∃ x y, ρ = [some (nt (orgK L c v w i)), some (nt c), some (nt v), some (nt w), x, y]) ⟨rfl, none, none, rfl⟩ (fun i ρ S' N hi hI hN => ?_) (fun ρ S' hI => ?_)
  · obtain ⟨rfl, x, y, rfl⟩ := hI
    rw [Int.zero_add]
    walk_at "w"
    unfold c_origin_1
    walk_at "w"
    refine n_bit (n_truB ?_)
    have hp2 : 2 ^ i ≤ 8192 := pow13 (by omega)
    cases hcb : c.testBit i with
    | false => exact hN _ _ ⟨rfl, _, _, by rw [org_no hv hi hcb]⟩
    | true =>
      walk_at "w"
      refine n_shl1 (by omega) (n_bit (n_truB ?_))
      cases hvb : v.testBit i with
      | true =>
        walk_at "w"
        refine n_shr (n_or ?_)
        exact hN _ _ ⟨rfl, _, _, by rw [org_one hv hi hcb hvb]⟩
      | false =>
        walk_at "w"
        refine n_shl (2 ^ w) (org_lt ..) (by omega) (n_or ?_)
        exact hN _ _ ⟨rfl, _, _, by rw [org_nul hv hi hcb hvb]⟩
  · obtain ⟨rfl, x, y, rfl⟩ := hI
    exact q
/-- the lot of the headers of a width that a test takes -/
def sp_fits_lot : Spec := fun ds S Q => ∃ c v sc sv w : Nat, ds = [.tup [nt c, nt v], .tup [nt sc, nt sv], nt w] ∧ w ≤ 13 ∧ c < 2 ^ w ∧ v &&& c = v ∧ sv &&& sc = sv ∧ Q (nt (mk (2 ^ w) fun h => decide (putN h sc sv &&& c = v))) S
theorem lot_mk {c v w : Nat} (hc : c < 2 ^ w) (hv : v &&& c = v) : lotN c v w = mk (2 ^ w) fun h => decide (h &&& c = v) := bit_ext fun i => by
  rw [lot_bit hc hv, mk_bit]
theorem mk_none {n : Nat} {p : Nat → Bool} (h : ∀ i, p i = false) : mk n p = 0 := bit_ext fun i => by
  rw [mk_bit, h]
  simp
theorem sub_le (c d : Nat) {w : Nat} (h : c < 2 ^ w) : c - (c &&& d) < 2 ^ w := by omega
theorem good_fits_lot : Good 9 3 (c_fits_lot sp_lot_of) sp_fits_lot := by
  intro ds S Q _ h
  obtain ⟨c, v, sc, sv, w, rfl, hw, hc, hv, hs, q⟩ := h
  show c_fits_lot sp_lot_of (kkOf Q) [some (.tup [nt c, nt v]), some (.tup [nt sc, nt sv]), some (nt w), none, none, none, none, none, none] S
  unfold c_fits_lot
  walk_at "w"
  refine n_and (n_and (n_and (n_ne ?_)))
  walk_at "w"
  by_cases e : v &&& (c &&& sc) = sv &&& (c &&& sc)
  · rw [decide_eq_true e]
    walk_at "w"
    refine n_sub (sub_and c sc).1 (n_and (callI rfl ⟨_, _, w, rfl, hw, ?_⟩))
    rw [lot_mk (sub_le c sc hc) (and_and v _), mk_congr (q := fun h => decide (putN h sc sv &&& c = v)) fun i _ => by rw [decide_eq_decide]; exact (fits_some hv hs e i).symm]
    exact q
  · rw [decide_eq_false e]
    rw [mk_none fun i => decide_eq_false (fits_none hv hs e i)] at q
    exact q
def sp_agree_lot : Spec := fun ds S Q => ∃ c v d u w : Nat, ds = [.tup [nt c, nt v], .tup [nt d, nt u], nt w] ∧ w ≤ 13 ∧ c < 2 ^ w ∧ v &&& c = v ∧ d < 2 ^ w ∧ u &&& d = u ∧ Q (nt (mk (2 ^ w) fun h => decide (putN h c v = putN h d u))) S
theorem good_agree_lot : Good 8 3 (c_agree_lot sp_lot_of) sp_agree_lot := by
  intro ds S Q _ h
  obtain ⟨c, v, d, u, w, rfl, hw, hc, hv, hd, hu, q⟩ := h
  show c_agree_lot sp_lot_of (kkOf Q) [some (.tup [nt c, nt v]), some (.tup [nt d, nt u]), some (nt w), none, none, none, none, none] S
  unfold c_agree_lot
  walk_at "w"
  refine n_xor (n_and (n_and (n_tru ?_)))
  by_cases e : (v ^^^ u) &&& c &&& d = 0
  · rw [decide_eq_true e]
    walk_at "w"
    refine n_xor (n_or (n_and (callI rfl ⟨_, _, w, rfl, hw, ?_⟩)))
    have hx : c ^^^ d < 2 ^ w := Nat.xor_lt_two_pow hc hd
    rw [lot_mk hx (and_and _ _), mk_congr (q := fun h => decide (putN h c v = putN h d u)) fun i _ => by rw [decide_eq_decide]; exact (agree_some hv hu e i).symm]
    exact q
  · rw [decide_eq_false e]
    rw [mk_none fun i => decide_eq_false (agree_none hv hu e i)] at q
    exact q
end WW


set_option autoImplicit false
set_option linter.all false
namespace WW
/-! ### image -/
def anyB (n : Nat) (p : Nat → Bool) : Bool := (List.range n).any p
theorem anyB_iff {n : Nat} {p : Nat → Bool} : anyB n p = true ↔ ∃ h, h < n ∧ p h = true := by
  unfold anyB
  rw [List.any_eq_true]
  exact ⟨fun ⟨x, h, e⟩ => ⟨x, List.mem_range.mp h, e⟩, fun ⟨x, h, e⟩ => ⟨x, List.mem_range.mpr h, e⟩⟩
def imgB (L c v w k g : Nat) : Bool := anyB (2 ^ w) fun h => L.testBit h && decide (putN h (low k c) (low k v) = g)
def imgK (L c v w k : Nat) : Nat := mk (2 ^ w) (imgB L c v w k)
theorem img_bit (L c v w k g : Nat) : (imgK L c v w k).testBit g = (decide (g < 2 ^ w) && imgB L c v w k g) := mk_bit ..
theorem img_lt (L c v w k : Nat) : imgK L c v w k < 2 ^ 2 ^ w := mk_lt ..
theorem imgB_iff {L c v w k g : Nat} : imgB L c v w k g = true ↔ ∃ h, h < 2 ^ w ∧ L.testBit h = true ∧ putN h (low k c) (low k v) = g := by
  unfold imgB
  rw [anyB_iff]
  simp only [Bool.and_eq_true, decide_eq_true_eq]
theorem low_lt {k c w : Nat} (h : c < 2 ^ w) : low k c < 2 ^ w := Nat.lt_of_le_of_lt Nat.and_le_left h
theorem img_zero {L c v w : Nat} (hL : L < 2 ^ 2 ^ w) : imgK L c v w 0 = L := by
  rw [nat_bits]
  intro g
  rw [img_bit, Bool.eq_iff_iff]
  have e : ∀ h, putN h (low 0 c) (low 0 v) = h := fun h => by
    rw [low_zero, low_zero]
    unfold putN
    simp
  constructor
  · intro q
    obtain ⟨q1, q2⟩ := Bool.and_eq_true_iff.mp q
    obtain ⟨h, h1, h2, h3⟩ := imgB_iff.mp q2
    rw [e] at h3
    rw [← h3]
    exact h2
  · intro q
    have hg : g < 2 ^ w := Nat.lt_of_not_le fun z => by rw [bit_lt hL z] at q; cases q
    rw [decide_eq_true hg, Bool.true_and]
    exact imgB_iff.mpr ⟨g, hg, q, e g⟩
theorem img_no {L c v w k : Nat} (hv : v &&& c = v) (hc : c.testBit k = false) : imgK L c v w (k + 1) = imgK L c v w k := by
  rw [nat_bits]
  intro g
  rw [img_bit, img_bit]
  congr 1
  rw [Bool.eq_iff_iff, imgB_iff, imgB_iff]
  simp only [put_low_no hv hc]
/-- bit k set by the value: the header of both -/
theorem put_low_k {h c v k : Nat} (hv : v &&& c = v) (hc : c.testBit k = true) (i : Nat) : (putN h (low (k + 1) c) (low (k + 1) v)).testBit i = if i = k then v.testBit k else (putN h (low k c) (low k v)).testBit i := by
  rw [put_bit (low_sub hv), put_bit (low_sub hv)]
  simp only [low_bit]
  by_cases e : i = k
  · subst e
    simp [hc]
  · have : decide (i < k + 1) = decide (i < k) := by rw [decide_eq_decide]; omega
    rw [this, if_neg e]
theorem put_low_at {h c v k : Nat} (hv : v &&& c = v) : (putN h (low k c) (low k v)).testBit k = h.testBit k := by
  rw [put_bit (low_sub hv), low_bit]
  simp
/-- who is the image at bit k -/
theorem img_step {L c v w k g : Nat} (hv : v &&& c = v) (hc : c.testBit k = true) : imgB L c v w (k + 1) g = true ↔ g.testBit k = v.testBit k ∧ ∃ f, imgB L c v w k f = true ∧ ∀ i, i ≠ k → f.testBit i = g.testBit i := by
  rw [imgB_iff]
  constructor
  · rintro ⟨h, h1, h2, rfl⟩
    refine ⟨by rw [put_low_k hv hc, if_pos rfl], putN h (low k c) (low k v), imgB_iff.mpr ⟨h, h1, h2, rfl⟩, fun i hi => by rw [put_low_k hv hc, if_neg hi]⟩
  · rintro ⟨e, f, q, ef⟩
    obtain ⟨h, h1, h2, rfl⟩ := imgB_iff.mp q
    refine ⟨h, h1, h2, bit_ext fun i => ?_⟩
    rw [put_low_k hv hc]
    by_cases hi : i = k
    · subst hi
      rw [if_pos rfl, e]
    · rw [if_neg hi, ef i hi]
theorem img_in {L c v w k g : Nat} (hc : c < 2 ^ w) (hv : v &&& c = v) (q : imgB L c v w k g = true) : g < 2 ^ w := by
  obtain ⟨h, h1, h2, rfl⟩ := imgB_iff.mp q
  exact put_lt (low_sub hv) (low_lt hc) h1
theorem low_half {L c v w k : Nat} (hk : k < w) (g : Nat) : (imgK L c v w k &&& zerosN k w).testBit g = (decide (g < 2 ^ w) && imgB L c v w k g && !g.testBit k) := by
  rw [Nat.testBit_and, img_bit, zeros_bit]
  cases decide (g < 2 ^ w) <;> cases imgB L c v w k g <;> cases g.testBit k <;> rfl
theorem high_half {L c v w k : Nat} (hk : k < w) : (imgK L c v w k &&& zerosN k w) ≤ imgK L c v w k ∧ ∀ g, (imgK L c v w k - (imgK L c v w k &&& zerosN k w)).testBit g = (decide (g < 2 ^ w) && imgB L c v w k g && g.testBit k) := by
  obtain ⟨h1, h2⟩ := sub_and (imgK L c v w k) (zerosN k w)
  refine ⟨h1, fun g => ?_⟩
  rw [h2, img_bit, zeros_bit]
  cases decide (g < 2 ^ w) <;> cases imgB L c v w k g <;> cases g.testBit k <;> rfl
theorem eq_or_flip {f g k : Nat} (e : ∀ i, i ≠ k → f.testBit i = g.testBit i) : f = g ∨ (g.testBit k = true ∧ f.testBit k = false ∧ f = g - 2 ^ k) ∨ (g.testBit k = false ∧ f.testBit k = true ∧ f = g + 2 ^ k) := by
  cases hf : f.testBit k with
  | true => cases hg : g.testBit k with
    | true =>
      left
      refine bit_ext fun i => ?_
      by_cases hi : i = k
      · subst hi; rw [hf, hg]
      · exact e i hi
    | false =>
      right; right
      refine ⟨rfl, rfl, bit_ext fun i => ?_⟩
      by_cases hi : i = k
      · subst hi; rw [hf, bit_give hg]; simp
      · rw [flip_up hg i hi]; exact e i hi
  | false => cases hg : g.testBit k with
    | true =>
      right; left
      refine ⟨rfl, rfl, bit_ext fun i => ?_⟩
      by_cases hi : i = k
      · subst hi; rw [hf, bit_take hg]; simp
      · rw [flip_dn hg i hi]; exact e i hi
    | false =>
      left
      refine bit_ext fun i => ?_
      by_cases hi : i = k
      · subst hi; rw [hf, hg]
      · exact e i hi
theorem img_one {L c v w k : Nat} (hv : v &&& c = v) (hcw : c < 2 ^ w) (hk : k < w) (hc : c.testBit k = true) (hvk : v.testBit k = true) :
    (imgK L c v w k - (imgK L c v w k &&& zerosN k w)) ||| (imgK L c v w k &&& zerosN k w) * 2 ^ 2 ^ k = imgK L c v w (k + 1) := by
  rw [nat_bits]
  intro g
  rw [Nat.testBit_or, Nat.testBit_mul_two_pow, (high_half hk).2, low_half hk, img_bit, Bool.eq_iff_iff]
  simp only [Bool.or_eq_true, Bool.and_eq_true, decide_eq_true_eq, Bool.not_eq_true', ge_iff_le]
  rw [img_step hv hc, hvk]
  constructor
  · rintro (⟨⟨h1, h2⟩, h3⟩ | ⟨h0, ⟨h1, h2⟩, h3⟩)
    · exact ⟨h1, h3, g, h2, fun _ _ => rfl⟩
    · have e := flip_up h3
      have hg : g.testBit k = true := by
        have := bit_give h3 k
        rw [show g - 2 ^ k + 2 ^ k = g by omega] at this
        rw [this]; simp
      rw [show g - 2 ^ k + 2 ^ k = g by omega] at e
      exact ⟨lt_flip hk (fun i hi => e i hi) h1, hg, g - 2 ^ k, h2, fun i hi => (e i hi).symm⟩
  · rintro ⟨h1, h2, f, h3, h4⟩
    rcases eq_or_flip h4 with rfl | ⟨_, h5, rfl⟩ | ⟨h5, _, _⟩
    · exact .inl ⟨⟨h1, h3⟩, h2⟩
    · exact .inr ⟨bit_low h2, ⟨Nat.lt_of_le_of_lt (Nat.sub_le _ _) h1, h3⟩, h5⟩
    · rw [h2] at h5; cases h5
theorem img_nul {L c v w k : Nat} (hv : v &&& c = v) (hcw : c < 2 ^ w) (hk : k < w) (hc : c.testBit k = true) (hvk : v.testBit k = false) :
    (imgK L c v w k &&& zerosN k w) ||| (imgK L c v w k - (imgK L c v w k &&& zerosN k w)) >>> 2 ^ k = imgK L c v w (k + 1) := by
  rw [nat_bits]
  intro g
  rw [Nat.testBit_or, Nat.testBit_shiftRight, Nat.add_comm (2 ^ k) g, (high_half hk).2, low_half hk, img_bit, Bool.eq_iff_iff]
  simp only [Bool.or_eq_true, Bool.and_eq_true, decide_eq_true_eq, Bool.not_eq_true']
  rw [img_step hv hc, hvk]
  constructor
  · rintro (⟨⟨h1, h2⟩, h3⟩ | ⟨⟨h1, h2⟩, h3⟩)
    · exact ⟨h1, h3, g, h2, fun _ _ => rfl⟩
    · have hg : g.testBit k = false := by
        cases hb : g.testBit k with
        | false => rfl
        | true =>
          rw [Nat.add_comm, Nat.testBit_two_pow_add_eq, hb] at h3
          cases h3
      have e := flip_up hg
      exact ⟨Nat.lt_of_le_of_lt (Nat.le_add_right _ _) h1, hg, g + 2 ^ k, h2, fun i hi => e i hi⟩
  · rintro ⟨h1, h2, f, h3, h4⟩
    rcases eq_or_flip h4 with rfl | ⟨h5, _, _⟩ | ⟨_, h5, rfl⟩
    · exact .inl ⟨⟨h1, h3⟩, h2⟩
    · rw [h2] at h5; cases h5
    · exact .inr ⟨⟨img_in hcw hv h3, h3⟩, h5⟩
/-- the image at last -/
theorem img_end {L c v w : Nat} (hc : c < 2 ^ w) (hv : v < 2 ^ w) {g : Nat} : imgB L c v w w g = true ↔ ∃ h, h < 2 ^ w ∧ L.testBit h = true ∧ putN h c v = g := by
  rw [imgB_iff, low_all hc, low_all hv]
theorem put_put {h c v d u : Nat} (hv : v &&& c = v) (hu : u &&& d = u) : putN h (c ||| d) (putN v d u) = putN (putN h c v) d u := by
  have hs : putN v d u &&& (c ||| d) = putN v d u := by
    rw [nat_bits]
    intro i
    have := sub_bits hv i
    have := sub_bits hu i
    rw [Nat.testBit_and, put_bit hu, Nat.testBit_or]
    cases hc : c.testBit i <;> cases hd : d.testBit i <;> cases hvi : v.testBit i <;> cases hui : u.testBit i <;> simp_all
  rw [nat_bits]
  intro i
  rw [put_bit hs, put_bit hu, put_bit hu, put_bit hv, Nat.testBit_or]
  cases hc : c.testBit i <;> cases hd : d.testBit i <;> simp_all
theorem put_put_sub {c v d u : Nat} (hv : v &&& c = v) (hu : u &&& d = u) : putN v d u &&& (c ||| d) = putN v d u := by
  rw [nat_bits]
  intro i
  have := sub_bits hv i
  have := sub_bits hu i
  rw [Nat.testBit_and, put_bit hu, Nat.testBit_or]
  cases hc : c.testBit i <;> cases hd : d.testBit i <;> cases hvi : v.testBit i <;> cases hui : u.testBit i <;> simp_all
theorem put_same {h c v : Nat} (hv : v &&& c = v) (e : h &&& c = v) : putN h c v = h := by
  rw [nat_bits]
  intro i
  have := and_eq.mp e i
  rw [put_bit hv]
  cases hc : c.testBit i <;> cases hvi : v.testBit i <;> cases hh : h.testBit i <;> simp_all
theorem put_in {h c v : Nat} (hv : v &&& c = v) : putN h c v &&& c = v := by
  rw [and_eq]
  intro i
  have := sub_bits hv i
  rw [put_bit hv]
  cases hc : c.testBit i <;> cases hvi : v.testBit i <;> cases hh : h.testBit i <;> simp_all
/-- bit by bit -/
def wiseK (h c v k : Nat) : Nat := mk k fun i => bif c.testBit i then v.testBit i else h.testBit i
theorem wise_succ (h c v k : Nat) : wiseK h c v k + (bif c.testBit k then v.testBit k else h.testBit k).toNat * 2 ^ k = wiseK h c v (k + 1) := by
  unfold wiseK
  cases hb : (bif c.testBit k then v.testBit k else h.testBit k) with
  | false =>
    refine bit_ext fun i => ?_
    simp only [Bool.toNat_false, Nat.zero_mul, Nat.add_zero, mk_bit]
    by_cases e : i = k
    · subst e; simp [hb]
    · have : decide (i < k + 1) = decide (i < k) := by rw [decide_eq_decide]; omega
      rw [this]
  | true =>
    have h0 : (mk k fun i => bif c.testBit i then v.testBit i else h.testBit i).testBit k = false := by
      rw [mk_bit]; simp
    refine bit_ext fun i => ?_
    rw [show (true : Bool).toNat * 2 ^ k = 2 ^ k by simp, bit_give h0, mk_bit, mk_bit]
    by_cases e : i = k
    · subst e; simp [hb]
    · have : decide (i < k + 1) = decide (i < k) := by rw [decide_eq_decide]; omega
      rw [this]
      simp [Ne.symm e]
theorem wise_end {h c v w : Nat} (hc : c < 2 ^ w) (hv : v &&& c = v) (hh : h < 2 ^ w) : wiseK h c v w = putN h c v := bit_ext fun i => by
  unfold wiseK
  rw [mk_bit, put_bit hv]
  by_cases hi : i < w
  · simp [hi]
  · rw [bit_lt hc (by omega), bit_lt hh (by omega)]
    simp [hi]
end WW


set_option Elab.async false
set_option linter.all false
set_option maxRecDepth 100000
set_option maxHeartbeats 4000000
set_option autoImplicit false
namespace WW
open PySem PySem.Spec PyProof.Rows L2

/-! ### data without names: nothing, ints, texts, tuples of such; when two are equal -/
inductive T where
  | non | int (i : Int) | str (s : Str) | tup (ts : List T)
mutual
def T.d : T → D
  | .non => .non
  | .int i => .int i
  | .str s => .str s
  | .tup ts => .tup (T.ds ts)
def T.ds : List T → List D
  | [] => []
  | t :: r => t.d :: T.ds r
end
mutual
def T.p : T → PyData
  | .non => .none
  | .int i => .int i
  | .str s => .str s
  | .tup ts => .tuple (T.ps ts)
def T.ps : List T → List PyData
  | [] => []
  | t :: r => t.p :: T.ps r
end
mutual
/-- fit to be compared: no deeper than k, texts in order -/
def T.fit : Nat → T → Bool
  | _, .non => true
  | _, .int _ => true
  | _, .str s => PyData.canLay0 (.str s)
  | 0, .tup _ => false
  | k + 1, .tup ts => T.fits k ts
def T.fits : Nat → List T → Bool
  | _, [] => true
  | k, t :: r => t.fit k && T.fits k r
end
mutual
theorem T.fit_lay : ∀ (t : T) (k : Nat), t.fit k = true → t.p.canLay0 = true ∧ t.p.depth ≤ k
  | .non, _, _ => ⟨rfl, Nat.zero_le _⟩
  | .int _, _, _ => ⟨rfl, Nat.zero_le _⟩
  | .str s, k, h => ⟨by unfold T.fit at h; exact h, Nat.zero_le _⟩
  | .tup ts, 0, h => nomatch h
  | .tup ts, k + 1, h => by
    obtain ⟨a, b⟩ := T.fits_lay ts k (by unfold T.fit at h; exact h)
    exact ⟨by unfold T.p PyData.canLay0; exact a, by unfold T.p PyData.depth; omega⟩
theorem T.fits_lay : ∀ (ts : List T) (k : Nat), T.fits k ts = true → PyData.canLayAll0 (T.ps ts) = true ∧ PyData.depthAll (T.ps ts) ≤ k
  | [], _, _ => ⟨rfl, Nat.zero_le _⟩
  | t :: r, k, h => by
    unfold T.fits at h
    obtain ⟨h1, h2⟩ := Bool.and_eq_true_iff.mp h
    obtain ⟨a, b⟩ := T.fit_lay t k h1
    obtain ⟨c, d⟩ := T.fits_lay r k h2
    exact ⟨by unfold T.ps PyData.canLayAll0; rw [a, c]; rfl, by unfold T.ps PyData.depthAll; omega⟩
end
theorem T.fit_shaped {t : T} (h : t.fit 64 = true) : SeqAt.shaped t.p = true := by
  obtain ⟨a, b⟩ := T.fit_lay t 64 h
  unfold SeqAt.shaped
  rw [a, decide_eq_true b]
  rfl
mutual
theorem T.dp (S : Sto) : ∀ t : T, DpD S t.d t.p
  | .non => by unfold T.d T.p; exact .non
  | .int i => by unfold T.d T.p; exact .int i
  | .str s => by unfold T.d T.p; exact .str s
  | .tup ts => by unfold T.d T.p; exact .tup (T.dps S ts)
theorem T.dps (S : Sto) : ∀ ts : List T, DpAllD S (T.ds ts) (T.ps ts)
  | [] => by unfold T.ds T.ps; exact .nil
  | t :: r => by unfold T.ds T.ps; exact .cons (T.dp S t) (T.dps S r)
end
mutual
theorem T.eqv : ∀ t u : T, PyData.eqv t.p u.p = true ↔ t = u
  | .non, .non => by simp [T.p, PyData.eqv]
  | .non, .int _ => by simp [T.p, PyData.eqv]
  | .non, .str _ => by simp [T.p, PyData.eqv]
  | .non, .tup _ => by simp [T.p, PyData.eqv]
  | .int _, .non => by simp [T.p, PyData.eqv]
  | .int i, .int j => by simp [T.p, PyData.eqv]
  | .int _, .str _ => by simp [T.p, PyData.eqv]
  | .int _, .tup _ => by simp [T.p, PyData.eqv]
  | .str _, .non => by simp [T.p, PyData.eqv]
  | .str _, .int _ => by simp [T.p, PyData.eqv]
  | .str s, .str t => by simp [T.p, PyData.eqv]
  | .str _, .tup _ => by simp [T.p, PyData.eqv]
  | .tup _, .non => by simp [T.p, PyData.eqv]
  | .tup _, .int _ => by simp [T.p, PyData.eqv]
  | .tup _, .str _ => by simp [T.p, PyData.eqv]
  | .tup ts, .tup us => by
    simp only [T.p, PyData.eqv, T.tup.injEq]
    exact T.eqvs ts us
theorem T.eqvs : ∀ ts us : List T, PyData.eqvAll (T.ps ts) (T.ps us) = true ↔ ts = us
  | [], [] => by simp [T.ps, PyData.eqvAll]
  | [], _ :: _ => by simp [T.ps, PyData.eqvAll]
  | _ :: _, [] => by simp [T.ps, PyData.eqvAll]
  | t :: r, u :: q => by
    simp only [T.ps, PyData.eqvAll, Bool.and_eq_true, List.cons.injEq]
    rw [T.eqv t u, T.eqvs r q]
end
def T.flat : T → Bool
  | .tup _ => false
  | _ => true
theorem T.cmp {t u : T} {S : Sto} {Q : Q1} {neg : Bool} (ht : t.fit 64 = true) (hu : u.fit 64 = true) (q : ∀ b : Bool, (b = true ↔ t = u) → Q (.bl (sg neg b)) S) : cmpEq neg t.d u.d S Q := by
  unfold cmpEq
  have deep : scalD t.d u.d = none → ∃ p q, DpD S t.d p ∧ DpD S u.d q ∧ SeqAt.shaped p = true ∧ SeqAt.shaped q = true ∧ Q (.bl (sg neg (PyData.eqv p q))) S := fun _ =>
    ⟨_, _, T.dp S t, T.dp S u, T.fit_shaped ht, T.fit_shaped hu, q _ (T.eqv t u)⟩
  cases t with
  | tup ts =>
    have e : scalD (T.tup ts).d u.d = none := by cases u <;> simp [T.d, scalD]
    rw [e]
    exact deep e
  | non => cases u with
    | tup us =>
      have e : scalD T.non.d (T.tup us).d = none := by simp [T.d, scalD]
      rw [e]
      exact deep e
    | non => simpa [T.d, scalD] using q true (by simp)
    | int j => simpa [T.d, scalD] using q false (by simp)
    | str j => simpa [T.d, scalD] using q false (by simp)
  | int i => cases u with
    | tup us =>
      have e : scalD (T.int i).d (T.tup us).d = none := by simp [T.d, scalD]
      rw [e]
      exact deep e
    | non => simpa [T.d, scalD] using q false (by simp)
    | int j => simpa [T.d, scalD] using q (decide (i = j)) (by simp)
    | str j => simpa [T.d, scalD] using q false (by simp)
  | str s => cases u with
    | tup us =>
      have e : scalD (T.str s).d (T.tup us).d = none := by simp [T.d, scalD]
      rw [e]
      exact deep e
    | non => simpa [T.d, scalD] using q false (by simp)
    | int j => simpa [T.d, scalD] using q false (by simp)
    | str j => simpa [T.d, scalD] using q (decide (s = j)) (by simp)
/-- two lists of such data -/
theorem T.cmpL {m n : Nat} {ts us : List T} {S : Sto} {Q : Q1} {neg : Bool} (hm : S[m]? = some (.lst (T.ds ts))) (hn : S[n]? = some (.lst (T.ds us))) (ht : T.fits 63 ts = true) (hu : T.fits 63 us = true) (q : ∀ b : Bool, (b = true ↔ ts = us) → Q (.bl (sg neg b)) S) :
    cmpEq neg (.ref m) (.ref n) S Q := by
  unfold cmpEq
  show ∃ p q, DpD S (.ref m) p ∧ DpD S (.ref n) q ∧ SeqAt.shaped p = true ∧ SeqAt.shaped q = true ∧ Q (.bl (sg neg (PyData.eqv p q))) S
  have sh : ∀ ts : List T, T.fits 63 ts = true → SeqAt.shaped (.list (T.ps ts)) = true := fun ts h => by
    obtain ⟨a, b⟩ := T.fits_lay ts 63 h
    unfold SeqAt.shaped
    have c1 : (PyData.list (T.ps ts)).canLay0 = true := by unfold PyData.canLay0; exact a
    have c2 : (PyData.list (T.ps ts)).depth ≤ 64 := by unfold PyData.depth; omega
    rw [c1, decide_eq_true c2]
    rfl
  refine ⟨.list (T.ps ts), .list (T.ps us), .lst hm (T.dps S ts), .lst hn (T.dps S us), sh ts ht, sh us hu, q _ ?_⟩
  have e : PyData.eqv (.list (T.ps ts)) (.list (T.ps us)) = PyData.eqvAll (T.ps ts) (T.ps us) := by simp only [PyData.eqv]
  rw [e]
  exact T.eqvs ts us
/-- pairs of naturals -/
def T.pr (p : Nat × Nat) : T := .tup [.int p.1, .int p.2]
theorem T.pr_d (a b : Nat) : D.tup [nt a, nt b] = (T.pr (a, b)).d := rfl
theorem T.pr_inj {p q : Nat × Nat} : T.pr p = T.pr q ↔ p = q := by
  unfold T.pr
  constructor
  · intro h
    injection h with h
    injection h with h1 h
    injection h with h2 h
    injection h1 with h1
    injection h2 with h2
    exact Prod.ext (by omega) (by omega)
  · rintro rfl; rfl
theorem T.ds_map {α : Type} (f : α → T) : ∀ l : List α, T.ds (l.map f) = l.map fun x => (f x).d
  | [] => rfl
  | x :: r => by
    show (f x).d :: T.ds (r.map f) = _
    rw [T.ds_map f r]
    rfl
theorem T.fits_map {α : Type} {f : α → T} {k : Nat} (h : ∀ x, (f x).fit k = true) : ∀ l : List α, T.fits k (l.map f) = true
  | [] => by unfold T.fits; rfl
  | x :: r => by
    show (T.fits k (f x :: r.map f)) = true
    unfold T.fits
    rw [h x, T.fits_map h r]
    rfl
theorem map_inj {α β : Type} {f : α → β} (h : ∀ x y, f x = f y → x = y) : ∀ {a b : List α}, a.map f = b.map f ↔ a = b
  | [], [] => by simp
  | [], _ :: _ => by simp
  | _ :: _, [] => by simp
  | x :: a, y :: b => by
    rw [List.map_cons, List.map_cons, List.cons.injEq, List.cons.injEq, map_inj h]
    exact ⟨fun ⟨p, q⟩ => ⟨h _ _ p, q⟩, fun ⟨p, q⟩ => ⟨by rw [p], q⟩⟩
end WW


set_option Elab.async false
set_option linter.all false
set_option maxRecDepth 100000
set_option maxHeartbeats 4000000
set_option autoImplicit false
namespace WW
open PySem PySem.Spec PyProof.Rows L2
local macro_rules | `(tactic| walk_at "w") => `(tactic| try dsimp only [ap_var, ap_cst, ap_op, ap_neg, ap_notV, ap_andV, ap_orV, ap_chain, ap_if, ap_nil, ap_cons, ap_tup, ap_lst, ap_noP, ap_part, ap_slc, ap_call, ap_blt, ap_met, ap_bits, ap_tst, ap_tsB, ap_notB, ap_andB, ap_orB, ap_yes, ap_lc, ap_sset, ap_asg, ap_asgP, ap_set, ap_drop, ap_ret, ap_retN, ap_brk, ap_cnt, ap_pas, ap_sq, ap_ifS, ap_for, ap_seqI, ap_rng, ap_enum, look, putR, kkOf, rd_int, rd_bl, rd_T, rd_F, rd_nm, rd_tp, rd_nil, rd_cons, rd_gv, rd_trB, rd_srcT, rd_rng1, rd_rng2, rd_notT, rd_notF, rd_wp0, rd_wp1])
/- image(lot, care, value, width): slots lot=0 care=1 value=2 width=3 bit=4 low=5 high=6 size=7 -/
def c_image_1 (p_zeros_lot : Spec) : WS :=
  (wIfS (wTst (wOp opAnd (wOp opShr (wVar 1) (wVar 4)) (wCst (.int 1)))) (wSq (wAsg 5 (wOp opAnd (wVar 0) (wCall 2 p_zeros_lot (wCons (wVar 4) (wCons (wVar 3) wNil))))) (wSq (wAsg 6 (wOp opSub (wVar 0) (wVar 5))) (wSq (wAsg 7 (wOp opShl (wCst (.int 1)) (wVar 4))) (wAsg 0 (wIf (wTst (wOp opAnd (wOp opShr (wVar 2) (wVar 4)) (wCst (.int 1)))) (wOp opOr (wVar 6) (wOp opShl (wVar 5) (wVar 7))) (wOp opOr (wVar 5) (wOp opShr (wVar 6) (wVar 7)))))))) wPas)
def c_image (p_zeros_lot : Spec) : WS :=
  (wSq (wFor (wRng (wCons (wVar 3) wNil)) (.nm 4) (c_image_1 p_zeros_lot))
  (wRet (wVar 0)))

/- _law_bitwise(header, care, value, width): slots header=0 care=1 value=2 width=3 found=4 bit=5 source=6 -/
def c_law_bitwise_1 : WS :=
  (wSq (wAsg 6 (wIf (wTst (wOp opAnd (wOp opShr (wVar 1) (wVar 5)) (wCst (.int 1)))) (wVar 2) (wVar 0)))
  (wAsg 4 (wOp opAdd (wVar 4) (wOp opShl (wOp opAnd (wOp opShr (wVar 6) (wVar 5)) (wCst (.int 1))) (wVar 5)))))
def c_law_bitwise : WS :=
  (wSq (wAsg 4 (wCst (.int 0)))
  (wSq (wFor (wRng (wCons (wVar 3) wNil)) (.nm 5) c_law_bitwise_1)
  (wRet (wVar 4))))

/- law(script): slots script=0 d=1 width=2 many=3 step=4 care=5 value=6 other=7 after=8 header=9 turn=10 both=11 headers=12 lot=13 back=14 made=15 whole=16 -/
def c_law_1 (p_law_begin : Spec) (p_law_rare : Spec) (p_law_draw : Spec) (p_law_cube : Spec) (p_law_bitwise : Spec) (p_set_header : Spec) (p_then_set : Spec) (p_law_lot : Spec) (p_image : Spec) (p_origin : Spec) : WS :=
  (wSq (wAsg 9 (wCall 2 p_law_draw (wCons (wVar 1) (wCons (wVar 3) wNil))))
  (wSq (wIfS (wTsB (wOp (cmpD .NotEq) (wCall 3 p_set_header (wCons (wVar 9) (wCons (wVar 5) (wCons (wVar 6) wNil)))) (wOp idxD (wVar 8) (wVar 9)))) (wRet (wCst (.bl false))) wPas)
  (wSq (wAsg 11 (wCall 2 p_then_set (wCons (wTup (wCons (wVar 5) (wCons (wVar 6) wNil))) (wCons (wVar 7) wNil))))
  (wIfS (wTsB (wOp (cmpD .NotEq) (wCall 3 p_set_header (wCons (wVar 9) (wCons (wOp idxD (wVar 11) (wCst (.int 0))) (wCons (wOp idxD (wVar 11) (wCst (.int 1))) wNil)))) (wCall 4 p_law_bitwise (wCons (wOp idxD (wVar 8) (wVar 9)) (wCons (wOp idxD (wVar 7) (wCst (.int 0))) (wCons (wOp idxD (wVar 7) (wCst (.int 1))) (wCons (wVar 2) wNil))))))) (wRet (wCst (.bl false))) wPas))))
def c_law_2 (p_law_begin : Spec) (p_law_rare : Spec) (p_law_draw : Spec) (p_law_cube : Spec) (p_law_bitwise : Spec) (p_set_header : Spec) (p_then_set : Spec) (p_law_lot : Spec) (p_image : Spec) (p_origin : Spec) : WS :=
  (wSq (wAsgP (.tp [5, 6]) (wCall 2 p_law_cube (wCons (wVar 1) (wCons (wVar 2) wNil))))
  (wSq (wAsg 7 (wCall 2 p_law_cube (wCons (wVar 1) (wCons (wVar 2) wNil))))
  (wSq (wAsg 8 (wLc (wRng (wCons (wVar 3) wNil)) (.nm 9) wYes (wCall 4 p_law_bitwise (wCons (wVar 9) (wCons (wVar 5) (wCons (wVar 6) (wCons (wVar 2) wNil))))) [9]))
  (wSq (wFor (wRng (wCons (wCst (.int 4)) wNil)) (.nm 10) (c_law_1 p_law_begin p_law_rare p_law_draw p_law_cube p_law_bitwise p_set_header p_then_set p_law_lot p_image p_origin))
  (wSq (wAsg 11 (wCall 2 p_then_set (wCons (wTup (wCons (wVar 5) (wCons (wVar 6) wNil))) (wCons (wVar 7) wNil))))
  (wSq (wIfS (wOrB (wTsB (wOp (cmpD .NotEq) (wOp idxD (wVar 11) (wCst (.int 0))) (wOp opOr (wVar 5) (wOp idxD (wVar 7) (wCst (.int 0)))))) (wOrB (wTsB (wOp (cmpD .NotEq) (wOp opAnd (wOp idxD (wVar 11) (wCst (.int 1))) (wOp idxD (wVar 11) (wCst (.int 0)))) (wOp idxD (wVar 11) (wCst (.int 1))))) (wTsB (wOp (cmpD .NotEq) (wCall 2 p_then_set (wCons (wTup (wCons (wCst (.int 0)) (wCons (wCst (.int 0)) wNil))) (wCons (wVar 7) wNil))) (wVar 7))))) (wRet (wCst (.bl false))) wPas)
  (wSq (wAsg 12 (wIf (wTsB (wOp (cmpD .Lt) (wVar 2) (wCst (.int 7)))) (wLc (wRng (wCons (wVar 3) wNil)) (.nm 9) (wTsB (wOp (cmpD .Eq) (wCall 2 p_law_draw (wCons (wVar 1) (wCons (wCst (.int 3)) wNil))) (wCst (.int 0)))) (wVar 9) [9]) (wLst (wCons (wCall 2 p_law_draw (wCons (wVar 1) (wCons (wVar 3) wNil))) wNil))))
  (wSq (wAsg 12 (wSSet (wVar 12)))
  (wSq (wAsg 13 (wCall 1 p_law_lot (wCons (wVar 12) wNil)))
  (wSq (wIfS (wTsB (wOp (cmpD .NotEq) (wCall 4 p_image (wCons (wVar 13) (wCons (wVar 5) (wCons (wVar 6) (wCons (wVar 2) wNil))))) (wCall 1 p_law_lot (wCons (wSSet (wLc (wSeqI (wVar 12)) (.nm 9) wYes (wOp idxD (wVar 8) (wVar 9)) [9])) wNil)))) (wRet (wCst (.bl false))) wPas)
  (wSq (wAsg 14 (wLc (wRng (wCons (wVar 3) wNil)) (.nm 9) (wTsB (wOp (cmpD .In) (wOp idxD (wVar 8) (wVar 9)) (wVar 12))) (wVar 9) [9]))
  (wSq (wIfS (wTsB (wOp (cmpD .NotEq) (wCall 4 p_origin (wCons (wVar 13) (wCons (wVar 5) (wCons (wVar 6) (wCons (wVar 2) wNil))))) (wCall 1 p_law_lot (wCons (wVar 14) wNil)))) (wRet (wCst (.bl false))) wPas)
  (wSq (wIfS (wTsB (wOp (cmpD .NotEq) (wOp opAnd (wVar 13) (wCall 4 p_origin (wCons (wCall 4 p_image (wCons (wVar 13) (wCons (wVar 5) (wCons (wVar 6) (wCons (wVar 2) wNil))))) (wCons (wVar 5) (wCons (wVar 6) (wCons (wVar 2) wNil)))))) (wVar 13))) (wRet (wCst (.bl false))) wPas)
  (wSq (wAsg 15 (wCall 4 p_image (wCons (wCall 4 p_origin (wCons (wVar 13) (wCons (wVar 5) (wCons (wVar 6) (wCons (wVar 2) wNil))))) (wCons (wVar 5) (wCons (wVar 6) (wCons (wVar 2) wNil))))))
  (wIfS (wTsB (wOp (cmpD .NotEq) (wVar 15) (wCall 1 p_law_lot (wCons (wLc (wSeqI (wVar 12)) (.nm 9) (wTsB (wOp (cmpD .Eq) (wOp opAnd (wVar 9) (wVar 5)) (wVar 6))) (wVar 9) [9]) wNil)))) (wRet (wCst (.bl false))) wPas)))))))))))))))
def c_law (p_law_begin : Spec) (p_law_rare : Spec) (p_law_draw : Spec) (p_law_cube : Spec) (p_law_bitwise : Spec) (p_set_header : Spec) (p_then_set : Spec) (p_law_lot : Spec) (p_image : Spec) (p_origin : Spec) : WS :=
  (wSq (wAsg 1 (wCall 1 p_law_begin (wCons (wVar 0) wNil)))
  (wSq (wAsg 2 (wIf (wTst (wCall 2 p_law_rare (wCons (wVar 1) (wCons (wCst (.int 25)) wNil)))) (wCst (.int 10)) (wOp opAdd (wCst (.int 1)) (wCall 2 p_law_draw (wCons (wVar 1) (wCons (wCst (.int 6)) wNil))))))
  (wSq (wAsg 3 (wOp opShl (wCst (.int 1)) (wVar 2)))
  (wSq (wFor (wRng (wCons (wCst (.int 4)) wNil)) (.nm 4) (c_law_2 p_law_begin p_law_rare p_law_draw p_law_cube p_law_bitwise p_set_header p_then_set p_law_lot p_image p_origin))
  (wSq (wAsg 16 (wOp opSub (wOp opShl (wCst (.int 1)) (wVar 3)) (wCst (.int 1))))
  (wRet (wAndV (wOp (cmpD .Eq) (wCall 4 p_image (wCons (wVar 16) (wCons (wCst (.int 0)) (wCons (wCst (.int 0)) (wCons (wVar 2) wNil))))) (wVar 16)) (wAndV (wOp (cmpD .Eq) (wCall 4 p_image (wCons (wCst (.int 0)) (wCons (wCst (.int 0)) (wCons (wCst (.int 0)) (wCons (wVar 2) wNil))))) (wCst (.int 0))) (wOp (cmpD .Eq) (wCall 4 p_origin (wCons (wCst (.int 0)) (wCons (wCst (.int 0)) (wCons (wCst (.int 0)) (wCons (wVar 2) wNil))))) (wCst (.int 0)))))))))))


def sp_image : Spec := fun ds S Q => ∃ L c v w : Nat, ds = [nt L, nt c, nt v, nt w] ∧ w ≤ 13 ∧ c < 2 ^ w ∧ v &&& c = v ∧ L < 2 ^ 2 ^ w ∧ Q (nt (imgK L c v w w)) S
theorem good_image : Good 8 4 (c_image sp_zeros_lot) sp_image := by
  intro ds S Q _ h
  obtain ⟨L, c, v, w, rfl, hw, hc, hv, hL, q⟩ := h
  show c_image sp_zeros_lot (kkOf Q) [some (nt L), some (nt c), some (nt v), some (nt w), none, none, none, none] S
  unfold c_image
  walk_at "w"
  refine ⟨by omega, ?_⟩
  rw [Int.toNat_natCast]
  have hp := pow13 hw
  refine forR (fun i ρ S' => S' = S ∧ ∃ x y z t, ρ = [some (nt (imgK L c v w i)), some (nt c), some (nt v), some (nt w), x, y, z, t]) ⟨rfl, none, none, none, none, by rw [img_zero hL]⟩ (fun i ρ S' N hi hI hN => ?_) (fun ρ S' hI => ?_)
  · obtain ⟨rfl, x, y, z, t, rfl⟩ := hI
    rw [Int.zero_add]
    walk_at "w"
    unfold c_image_1
    walk_at "w"
    refine n_bit (n_truB ?_)
    have hp2 : 2 ^ i ≤ 8192 := pow13 (by omega)
    cases hcb : c.testBit i with
    | false => exact hN _ _ ⟨rfl, _, _, _, _, by rw [img_no hv hcb]⟩
    | true =>
      walk_at "w"
      refine callI rfl ⟨i, w, rfl, hw, hi, n_and (n_sub (high_half hi).1 (n_shl1 (by omega) (n_bit (n_truB ?_))))⟩
      have hlow : imgK L c v w i &&& zerosN i w < 2 ^ 2 ^ w := Nat.lt_of_le_of_lt Nat.and_le_left (img_lt ..)
      cases hvb : v.testBit i with
      | true =>
        walk_at "w"
        refine n_shl (2 ^ w) hlow (by omega) (n_or ?_)
        exact hN _ _ ⟨rfl, _, _, _, _, by rw [img_one hv hc hi hcb hvb]⟩
      | false =>
        walk_at "w"
        refine n_shr (n_or ?_)
        exact hN _ _ ⟨rfl, _, _, _, _, by rw [img_nul hv hc hi hcb hvb]⟩
  · obtain ⟨rfl, x, y, z, t, rfl⟩ := hI
    exact q
def sp_law_bitwise : Spec := fun ds S Q => ∃ h c v w : Nat, ds = [nt h, nt c, nt v, nt w] ∧ w ≤ 13 ∧ c < 2 ^ w ∧ v &&& c = v ∧ h < 2 ^ w ∧ Q (nt (putN h c v)) S
theorem good_law_bitwise : Good 7 4 c_law_bitwise sp_law_bitwise := by
  intro ds S Q _ h
  obtain ⟨h, c, v, w, rfl, hw, hc, hv, hh, q⟩ := h
  show c_law_bitwise (kkOf Q) [some (nt h), some (nt c), some (nt v), some (nt w), none, none, none] S
  unfold c_law_bitwise
  walk_at "w"
  refine ⟨by omega, ?_⟩
  rw [Int.toNat_natCast]
  refine forR (fun i ρ S' => S' = S ∧ ∃ x y, ρ = [some (nt h), some (nt c), some (nt v), some (nt w), some (nt (wiseK h c v i)), x, y]) ⟨rfl, none, none, rfl⟩ (fun i ρ S' N hi hI hN => ?_) (fun ρ S' hI => ?_)
  · obtain ⟨rfl, x, y, rfl⟩ := hI
    rw [Int.zero_add]
    walk_at "w"
    unfold c_law_bitwise_1
    walk_at "w"
    refine n_bit (n_truB ?_)
    have fin : ∀ a : Nat, a.testBit i = (bif c.testBit i then v.testBit i else h.testBit i) → opShr (nt a) (nt i) S' (fun x S1 => opAnd x (.int 1) S1 (fun x S1 => opShl x (nt i) S1 (fun y S2 => opAdd (nt (wiseK h c v i)) y S2 (fun d S3 => N [some (nt h), some (nt c), some (nt v), some (nt w), some d, some (nt i), some (nt a)] S3)))) := fun a e => by
      refine n_bit (n_shl 1 (by cases a.testBit i <;> decide) (by omega) (n_add ?_))
      rw [e, wise_succ]
      exact hN _ _ ⟨rfl, _, _, rfl⟩
    cases hcb : c.testBit i with
    | true =>
      walk_at "w"
      exact fin v (by rw [hcb]; rfl)
    | false =>
      walk_at "w"
      exact fin h (by rw [hcb]; rfl)
  · obtain ⟨rfl, x, y, rfl⟩ := hI
    rw [wise_end hc hv hh] at *
    walk_at "w"
    exact q
theorem inF_nts (h : Nat) : ∀ hs : List Nat, inF (nt h) (hs.map nt) = decide (h ∈ hs)
  | [] => rfl
  | x :: r => by
    show (eqF (nt x) (nt h) || inF (nt h) (r.map nt)) = _
    rw [inF_nts h r]
    show ((x : Int) == (h : Int) || _) = _
    rw [Bool.eq_iff_iff]
    simp only [Bool.or_eq_true, beq_iff_eq, decide_eq_true_eq, List.mem_cons]
    constructor
    · rintro (q | q)
      · exact .inl (by omega)
      · exact .inr q
    · rintro (q | q)
      · exact .inl (by omega)
      · exact .inr q
theorem flat_nts : ∀ hs : List Nat, (hs.map nt).all flatD = true
  | [] => rfl
  | x :: r => flat_nts r
theorem n_inL {h q : Nat} {hs : List Nat} {S : Sto} {Q : Q1} (hq : S[q]? = some (.lst (hs.map nt))) (k : Q (.bl (decide (h ∈ hs))) S) : cmpD .In (nt h) (.ref q) S Q := by
  refine ⟨_, hq, rfl, flat_nts hs, ?_⟩
  rw [inF_nts]
  exact k
theorem pr_ne {a b c d : Nat} {S : Sto} {Q : Q1} (q : Q (.bl (!decide ((a, b) = (c, d)))) S) : cmpD .NotEq (.tup [nt a, nt b]) (.tup [nt c, nt d]) S Q :=
  T.cmp (t := T.pr (a, b)) (u := T.pr (c, d)) (neg := true) rfl rfl fun e he => by
    have : e = decide ((a, b) = (c, d)) := by
      rw [Bool.eq_iff_iff, he, T.pr_inj, decide_eq_true_eq]
    rw [this]
    exact q
theorem mem_ofL {hs ks : List Nat} (e : ∀ g, g ∈ hs ↔ g ∈ ks) : ofL hs = ofL ks := bit_ext fun i => by
  rw [ofL_bit, ofL_bit, decide_eq_decide]
  exact e i
theorem img_list {c v w : Nat} {hs ms : List Nat} (hc : c < 2 ^ w) (hv : v &&& c = v) (hb : ∀ h ∈ hs, h < 2 ^ w) (e : ∀ g, g ∈ ms ↔ ∃ h ∈ hs, putN h c v = g) : imgK (ofL hs) c v w w = ofL ms := bit_ext fun g => by
  have hv2 : v < 2 ^ w := by
    rw [← hv]
    exact Nat.lt_of_le_of_lt Nat.and_le_right hc
  rw [img_bit, ofL_bit, Bool.eq_iff_iff, Bool.and_eq_true, decide_eq_true_eq, decide_eq_true_eq, img_end hc hv2, e]
  constructor
  · rintro ⟨_, h, h1, h2, h3⟩
    rw [ofL_bit, decide_eq_true_eq] at h2
    exact ⟨h, h2, h3⟩
  · rintro ⟨h, h1, h2⟩
    refine ⟨?_, h, hb h h1, ?_, h2⟩
    · rw [← h2]
      exact put_lt hv hc (hb h h1)
    · rw [ofL_bit]; exact decide_eq_true h1
theorem org_list {c v w : Nat} {hs : List Nat} (hc : c < 2 ^ w) (hv : v &&& c = v) : orgK (ofL hs) c v w w = ofL ((List.range (2 ^ w)).filter fun h => decide (putN h c v ∈ hs)) := bit_ext fun g => by
  have hv2 : v < 2 ^ w := by
    rw [← hv]
    exact Nat.lt_of_le_of_lt Nat.and_le_right hc
  rw [org_end hc hv2, ofL_bit, ofL_bit, Bool.eq_iff_iff]
  simp only [Bool.and_eq_true, decide_eq_true_eq, List.mem_filter, List.mem_range]
def LI2 (ns : List Int) (n w : Nat) (ρ : Rho) (S : Sto) : Prop := DrawS S n ∧ ∃ x_step x_care x_value x_other x_after x_header x_turn x_both x_headers x_lot x_back x_made x_whole, ρ = [some (.fro (ns.map D.int)), some (.ref n), some (nt w), some (nt (2 ^ w)), x_step, x_care, x_value, x_other, x_after, x_header, x_turn, x_both, x_headers, x_lot, x_back, x_made, x_whole]
theorem body2 {ns : List Int} {n w : Nat} {k : KK} {S : Sto} {x_step x_care x_value x_other x_after x_header x_turn x_both x_headers x_lot x_back x_made x_whole : Option D} (hw : w ≤ 10) (hD : DrawS S n) (hN : ∀ ρ S, LI2 ns n w ρ S → k.nx ρ S) :
    c_law_2 sp_law_begin sp_law_rare sp_law_draw sp_law_cube sp_law_bitwise sp_set_header sp_then_set sp_law_lot sp_image sp_origin k [some (.fro (ns.map D.int)), some (.ref n), some (nt w), some (nt (2 ^ w)), x_step, x_care, x_value, x_other, x_after, x_header, x_turn, x_both, x_headers, x_lot, x_back, x_made, x_whole] S := by
  have hw13 : w ≤ 13 := by omega
  have hp := pow13 hw13
  have hp0 := Nat.two_pow_pos w
  have hbig : 2 ^ w < 2 ^ 8999 := Nat.pow_lt_pow_right (by decide) (by omega)
  unfold c_law_2
  refine sq_cut (fun ρ S' => DrawS S' n ∧ ∃ c v, c < 2 ^ w ∧ v &&& c = v ∧ ρ = [some (.fro (ns.map D.int)), some (.ref n), some (nt w), some (nt (2 ^ w)), x_step, some (nt c), some (nt v), x_other, x_after, x_header, x_turn, x_both, x_headers, x_lot, x_back, x_made, x_whole]) (fun N hN' => ?_) (fun ρ S1 hI => ?_)
  · walk_at "w"
    refine callI rfl ⟨n, w, rfl, hD, hw13, fun c v S' h1 h2 h3 h4 => ?_⟩
    walk_at "w"
    exact hN' _ _ ⟨h3, c, v, h1, h2, rfl⟩
  obtain ⟨hD, c, v, hc, hv, rfl⟩ := hI
  refine sq_cut (fun ρ S' => DrawS S' n ∧ ∃ d u, d < 2 ^ w ∧ u &&& d = u ∧ ρ = [some (.fro (ns.map D.int)), some (.ref n), some (nt w), some (nt (2 ^ w)), x_step, some (nt c), some (nt v), some (.tup [nt d, nt u]), x_after, x_header, x_turn, x_both, x_headers, x_lot, x_back, x_made, x_whole]) (fun N hN' => ?_) (fun ρ S1 hI => ?_)
  · walk_at "w"
    exact callI rfl ⟨n, w, rfl, hD, hw13, fun c v S' h1 h2 h3 h4 => hN' _ _ ⟨h3, c, v, h1, h2, rfl⟩⟩
  obtain ⟨hD, d, u, hd, hu, rfl⟩ := hI
  refine sq_cut (fun ρ S' => DrawS S' n ∧ ∃ p : Nat, p ≠ n ∧ S'[p]? = some (.lst (((List.range (2 ^ w)).map fun h => putN h c v).map nt)) ∧ ρ = [some (.fro (ns.map D.int)), some (.ref n), some (nt w), some (nt (2 ^ w)), x_step, some (nt c), some (nt v), some (.tup [nt d, nt u]), some (.ref p), x_header, x_turn, x_both, x_headers, x_lot, x_back, x_made, x_whole]) (fun N hN' => ?_) (fun ρ S1 hI => ?_)
  · walk_at "w"
    refine ⟨by omega, ?_⟩
    rw [Int.toNat_natCast]
    refine lcR (fun i acc S' => DrawS S' n ∧ acc = ((List.range i).map fun h => putN h c v).map nt) ⟨hD, rfl⟩ (fun i acc S' N hi hI hN => ?_) (fun acc S' hI => ?_)
    · obtain ⟨hD, rfl⟩ := hI
      rw [Int.zero_add]
      walk_at "w"
      refine callI rfl ⟨i, c, v, w, rfl, hw13, hc, hv, hi, ⟨?_, hN _ _ ⟨hD, ?_⟩⟩⟩
      · rw [List.length_map, List.length_map, List.length_range]
        exact sz_of' (by omega)
      · rw [List.range_succ, List.map_append, List.map_append]
        rfl
    · obtain ⟨hD, rfl⟩ := hI
      exact hN' _ _ ⟨hD.ext (Ext.push _ _), S'.length, Nat.ne_of_gt hD.lt, push_at, rfl⟩
  obtain ⟨hD, p, hpn, hp1, rfl⟩ := hI
  have after : ∀ h : Nat, h < 2 ^ w → atI ((((List.range (2 ^ w)).map fun h => putN h c v).map nt)) (h : Int) = some (nt (putN h c v)) := fun h hh => by
    apply atI_nat
    rw [List.getElem?_map, List.getElem?_map, List.getElem?_range hh]
    rfl
  refine sq_cut (fun ρ S' => DrawS S' n ∧ S'[p]? = some (.lst (((List.range (2 ^ w)).map fun h => putN h c v).map nt)) ∧ ∃ x_header x_turn x_both, ρ = [some (.fro (ns.map D.int)), some (.ref n), some (nt w), some (nt (2 ^ w)), x_step, some (nt c), some (nt v), some (.tup [nt d, nt u]), some (.ref p), x_header, x_turn, x_both, x_headers, x_lot, x_back, x_made, x_whole]) (fun N hN' => ?_) (fun ρ S2 hI => ?_)
  · walk_at "w"
    refine ⟨by decide, ?_⟩
    refine forR (fun i ρ S' => DrawS S' n ∧ S'[p]? = some (.lst (((List.range (2 ^ w)).map fun h => putN h c v).map nt)) ∧ ∃ x_header x_turn x_both, ρ = [some (.fro (ns.map D.int)), some (.ref n), some (nt w), some (nt (2 ^ w)), x_step, some (nt c), some (nt v), some (.tup [nt d, nt u]), some (.ref p), x_header, x_turn, x_both, x_headers, x_lot, x_back, x_made, x_whole]) ⟨hD, hp1, _, _, _, rfl⟩ (fun i ρ S' N hi hI hN => ?_) (fun ρ S' hI => hN' _ _ hI)
    obtain ⟨hD, hp1, x_header, x_turn, x_both, rfl⟩ := hI
    walk_at "w"
    unfold c_law_1
    walk_at "w"
    refine callI rfl ⟨n, 2 ^ w, rfl, hD, hbig, fun h S3 g1 g2 g3 g4 => ?_⟩
    have hh := draw_lt g1 g2 hp0
    have hp2 : S3[p]? = some (.lst (((List.range (2 ^ w)).map fun h => putN h c v).map nt)) := by rw [g4.2 p hpn]; exact hp1
    refine callI rfl ⟨h, c, v, rfl, i_ref hp2 (after h hh) (n_ne ?_)⟩
    rw [decide_eq_true rfl]
    walk_at "w"
    refine ⟨by show 2 ≤ sizeLine; decide, callI rfl ⟨c, v, d, u, rfl, ?_⟩⟩
    refine i_tup (d := nt (c ||| d)) rfl (i_tup (d := nt (putN v d u)) rfl (callI rfl ⟨h, c ||| d, putN v d u, rfl, ?_⟩))
    refine i_ref hp2 (after h hh) (i_tup (d := nt d) rfl (i_tup (d := nt u) rfl (callI rfl ⟨putN h c v, d, u, w, rfl, hw13, hd, hu, put_lt hv hc hh, n_ne ?_⟩)))
    rw [put_put hv hu, decide_eq_true rfl]
    exact hN _ _ ⟨g3, hp2, _, _, _, rfl⟩
  obtain ⟨hD, hp1, x_header, x_turn, x_both, rfl⟩ := hI
  refine sq_cut (fun ρ S' => S' = S2 ∧ ρ = [some (.fro (ns.map D.int)), some (.ref n), some (nt w), some (nt (2 ^ w)), x_step, some (nt c), some (nt v), some (.tup [nt d, nt u]), some (.ref p), x_header, x_turn, some (.tup [nt (c ||| d), nt (putN v d u)]), x_headers, x_lot, x_back, x_made, x_whole]) (fun N hN' => ?_) (fun ρ S3 hI => ?_)
  · walk_at "w"
    refine ⟨by show 2 ≤ sizeLine; decide, callI rfl ⟨c, v, d, u, rfl, ?_⟩⟩
    exact hN' _ _ ⟨rfl, rfl⟩
  obtain ⟨rfl, rfl⟩ := hI
  refine sq_cut (fun ρ S' => S' = S3 ∧ ∃ x_both, ρ = [some (.fro (ns.map D.int)), some (.ref n), some (nt w), some (nt (2 ^ w)), x_step, some (nt c), some (nt v), some (.tup [nt d, nt u]), some (.ref p), x_header, x_turn, x_both, x_headers, x_lot, x_back, x_made, x_whole]) (fun N hN' => ?_) (fun ρ S4 hI => ?_)
  · walk_at "w"
    refine i_tup (d := nt (c ||| d)) rfl (i_tup (d := nt d) rfl (n_or (n_ne ?_)))
    rw [decide_eq_true rfl]
    walk_at "w"
    refine i_tup (d := nt (putN v d u)) rfl (i_tup (d := nt (c ||| d)) rfl (n_and (i_tup (d := nt (putN v d u)) rfl (n_ne ?_))))
    rw [put_put_sub hv hu, decide_eq_true rfl]
    walk_at "w"
    refine ⟨by show 2 ≤ sizeLine; decide, callI rfl ⟨0, 0, d, u, rfl, pr_ne ?_⟩⟩
    have e : (0 ||| d, putN 0 d u) = (d, u) := by
      unfold putN
      simp
    rw [decide_eq_true e]
    exact hN' _ _ ⟨rfl, _, rfl⟩
  obtain ⟨rfl, x_both, rfl⟩ := hI
  refine sq_cut (fun ρ S' => DrawS S' n ∧ S'[p]? = some (.lst (((List.range (2 ^ w)).map fun h => putN h c v).map nt)) ∧ ∃ (q : Nat) (hs : List Nat), hs.length ≤ 4000 ∧ (∀ h ∈ hs, h < 2 ^ w) ∧ S'[q]? = some (.lst (hs.map nt)) ∧ ρ = [some (.fro (ns.map D.int)), some (.ref n), some (nt w), some (nt (2 ^ w)), x_step, some (nt c), some (nt v), some (.tup [nt d, nt u]), some (.ref p), x_header, x_turn, x_both, some (.ref q), x_lot, x_back, x_made, x_whole]) (fun N hN' => ?_) (fun ρ S5 hI => ?_)
  · walk_at "w"
    refine n_lt (b := 7) ?_
    walk_at "w"
    cases h7 : decide (w < 7) with
    | true =>
      walk_at "w"
      refine ⟨by omega, ?_⟩
      rw [Int.toNat_natCast]
      have h64 : 2 ^ w ≤ 2 ^ 6 := Nat.pow_le_pow_right (by decide) (by have := of_decide_eq_true h7; omega)
      refine lcR (fun i acc S' => DrawS S' n ∧ S'[p]? = some (.lst (((List.range (2 ^ w)).map fun h => putN h c v).map nt)) ∧ ∃ hs : List Nat, hs.length ≤ i ∧ (∀ h ∈ hs, h < i) ∧ acc = hs.map nt) ⟨hD, hp1, [], Nat.le_refl _, (fun _ h => nomatch h), rfl⟩ (fun i acc S' N hi hI hN => ?_) (fun acc S' hI => ?_)
      · obtain ⟨hD, hp1, hs, hl, hb, rfl⟩ := hI
        rw [Int.zero_add]
        walk_at "w"
        refine callI rfl ⟨n, 3, rfl, hD, lt_big (n := 2) (by decide) (by decide), fun r S1 g1 g2 g3 g4 => n_eq (b := 0) ?_⟩
        have hp2 : S1[p]? = some (.lst (((List.range (2 ^ w)).map fun h => putN h c v).map nt)) := by rw [g4.2 p hpn]; exact hp1
        walk_at "w"
        cases decide (r = 0) with
        | true =>
          refine ⟨?_, hN _ _ ⟨g3, hp2, hs ++ [i], ?_, fun h hm => ?_, ?_⟩⟩
          · rw [List.length_map]
            exact sz_of' (by omega)
          · simp; omega
          · rcases List.mem_append.mp hm with z | z
            · have := hb h z; omega
            · rw [List.mem_singleton] at z; omega
          · rw [List.map_append]; rfl
        | false => exact hN _ _ ⟨g3, hp2, hs, by omega, fun h hm => by have := hb h hm; omega, rfl⟩
      · obtain ⟨hD, hp1, hs, hl, hb, rfl⟩ := hI
        exact hN' _ _ ⟨hD.ext (Ext.push _ _), Ext.push _ _ _ _ hp1, S'.length, hs, by omega, hb, push_at, rfl⟩
    | false =>
      walk_at "w"
      refine callI rfl ⟨n, 2 ^ w, rfl, hD, hbig, fun r S1 g1 g2 g3 g4 => ?_⟩
      have hr := draw_lt g1 g2 hp0
      have hp2 : S1[p]? = some (.lst (((List.range (2 ^ w)).map fun h => putN h c v).map nt)) := by rw [g4.2 p hpn]; exact hp1
      refine ⟨by show 1 ≤ sizeLine; decide, hN' _ _ ⟨g3.ext (Ext.push _ _), Ext.push _ _ _ _ hp2, S1.length, [r], by show 1 ≤ 4000; decide, fun h hm => ?_, push_at, rfl⟩⟩
      rw [List.mem_singleton] at hm
      omega
  obtain ⟨hD, hp1, q, hs, hl, hb, hq, rfl⟩ := hI
  refine sq_cut (fun ρ S' => DrawS S' n ∧ S'[p]? = some (.lst (((List.range (2 ^ w)).map fun h => putN h c v).map nt)) ∧ ∃ (q : Nat) (hs : List Nat), hs.length ≤ 4000 ∧ (∀ h ∈ hs, h < 2 ^ w) ∧ S'[q]? = some (.lst (hs.map nt)) ∧ ρ = [some (.fro (ns.map D.int)), some (.ref n), some (nt w), some (nt (2 ^ w)), x_step, some (nt c), some (nt v), some (.tup [nt d, nt u]), some (.ref p), x_header, x_turn, x_both, some (.ref q), x_lot, x_back, x_made, x_whole]) (fun N hN' => ?_) (fun ρ S6 hI => ?_)
  · walk_at "w"
    refine i_sset hq hl fun ms h1 h2 => ?_
    refine hN' _ _ ⟨hD.ext (Ext.push _ _), Ext.push _ _ _ _ hp1, S5.length, ms, ?_, fun h hm => hb h ((h2 h).mp hm), push_at, rfl⟩
    have hA : Asc ms (2 ^ w) := ⟨h1, fun h hm => hb h ((h2 h).mp hm)⟩
    have h10 : 2 ^ w ≤ 2 ^ 10 := Nat.pow_le_pow_right (by decide) hw
    have := hA.len
    omega
  obtain ⟨hD, hp1, q, hs, hl, hb, hq, rfl⟩ := hI
  have hb8 : ∀ h ∈ hs, h < 8192 := fun h hm => by have := hb h hm; omega
  have hL : ofL hs < 2 ^ 2 ^ w := ofL_lt hb
  refine sq_cut (fun ρ S' => S' = S6 ∧ ρ = [some (.fro (ns.map D.int)), some (.ref n), some (nt w), some (nt (2 ^ w)), x_step, some (nt c), some (nt v), some (.tup [nt d, nt u]), some (.ref p), x_header, x_turn, x_both, some (.ref q), some (nt (ofL hs)), x_back, x_made, x_whole]) (fun N hN' => ?_) (fun ρ S7 hI => ?_)
  · walk_at "w"
    exact callI rfl ⟨q, hs, rfl, hq, hb8, hN' _ _ ⟨rfl, rfl⟩⟩
  obtain ⟨rfl, rfl⟩ := hI
  -- image
  have img := img_list (hs := hs) (ms := (hs.map fun h => putN h c v)) hc hv hb fun g => by rw [List.mem_map]
  refine sq_cut (fun ρ S' => DrawS S' n ∧ S'[p]? = some (.lst (((List.range (2 ^ w)).map fun h => putN h c v).map nt)) ∧ S'[q]? = some (.lst (hs.map nt)) ∧ ρ = [some (.fro (ns.map D.int)), some (.ref n), some (nt w), some (nt (2 ^ w)), x_step, some (nt c), some (nt v), some (.tup [nt d, nt u]), some (.ref p), x_header, x_turn, x_both, some (.ref q), some (nt (ofL hs)), x_back, x_made, x_whole]) (fun N hN' => ?_) (fun ρ S8 hI => ?_)
  · walk_at "w"
    refine callI rfl ⟨ofL hs, c, v, w, rfl, hw13, hc, hv, hL, ?_⟩
    refine ⟨_, hq, ?_⟩
    refine lcI (fun i acc S' => S' = S7 ∧ acc = ((hs.take i).map fun h => putN h c v).map nt) ⟨rfl, rfl⟩ (fun i x acc S' N hx hI hN => ?_) (fun acc S' hI => ?_)
    · obtain ⟨rfl, rfl⟩ := hI
      refine ⟨hq, ?_⟩
      rw [List.getElem?_map] at hx
      cases hxi : hs[i]? with
      | none => rw [hxi] at hx; cases hx
      | some h =>
        rw [hxi] at hx
        cases hx
        walk_at "w"
        have hi := (List.getElem?_eq_some_iff.mp hxi).1
        refine i_ref hp1 (after h (hb h (List.mem_of_getElem? hxi))) ⟨?_, hN _ _ ⟨rfl, ?_⟩⟩
        · rw [List.length_map, List.length_map, List.length_take]
          exact sz_of' (by omega)
        · rw [take_succ hxi, List.map_append, List.map_append]
          rfl
    · obtain ⟨rfl, rfl⟩ := hI
      refine ⟨hq, ?_⟩
      rw [List.length_map, List.take_length]
      refine i_sset push_at (by rw [List.length_map]; exact hl) fun ms h1 h2 => ?_
      refine callI rfl ⟨_, ms, rfl, push_at, fun g hg => ?_, n_ne ?_⟩
      · obtain ⟨h, hh, rfl⟩ := List.mem_map.mp ((h2 g).mp hg)
        have := put_lt hv hc (hb h hh)
        omega
      · rw [decide_eq_true (img.trans (mem_ofL fun g => (h2 g).symm))]
        have e1 := Ext.push S' (.lst ((hs.map fun h => putN h c v).map nt))
        have e2 := e1.trans (Ext.push (S' ++ [.lst ((hs.map fun h => putN h c v).map nt)]) (.lst (ms.map nt)))
        exact hN' _ _ ⟨hD.ext e2, e2 _ _ hp1, e2 _ _ hq, rfl⟩
  obtain ⟨hD, hp1, hq, rfl⟩ := hI
  -- origin
  refine sq_cut (fun ρ S' => DrawS S' n ∧ S'[q]? = some (.lst (hs.map nt)) ∧ ∃ b, S'[b]? = some (.lst (((List.range (2 ^ w)).filter fun h => decide (putN h c v ∈ hs)).map nt)) ∧ ρ = [some (.fro (ns.map D.int)), some (.ref n), some (nt w), some (nt (2 ^ w)), x_step, some (nt c), some (nt v), some (.tup [nt d, nt u]), some (.ref p), x_header, x_turn, x_both, some (.ref q), some (nt (ofL hs)), some (.ref b), x_made, x_whole]) (fun N hN' => ?_) (fun ρ S9 hI => ?_)
  · walk_at "w"
    refine ⟨by omega, ?_⟩
    rw [Int.toNat_natCast]
    refine lcR (fun i acc S' => S' = S8 ∧ acc = ((List.range i).filter fun h => decide (putN h c v ∈ hs)).map nt) ⟨rfl, rfl⟩ (fun i acc S' N hi hI hN => ?_) (fun acc S' hI => ?_)
    · obtain ⟨rfl, rfl⟩ := hI
      rw [Int.zero_add]
      walk_at "w"
      refine i_ref hp1 (after i hi) (n_inL hq ?_)
      walk_at "w"
      cases hbb : decide (putN i c v ∈ hs) with
      | true =>
        refine ⟨?_, hN _ _ ⟨rfl, ?_⟩⟩
        · rw [List.length_map]
          exact sz_pow (Nat.le_trans (filter_asc i _).len (Nat.le_of_lt hi)) hw13
        · rw [filter_snoc, hbb, if_pos rfl, List.map_append]
          rfl
      | false =>
        refine hN _ _ ⟨rfl, ?_⟩
        rw [filter_snoc, hbb, if_neg Bool.false_ne_true, List.append_nil]
    · obtain ⟨rfl, rfl⟩ := hI
      exact hN' _ _ ⟨hD.ext (Ext.push _ _), Ext.push _ _ _ _ hq, S'.length, push_at, rfl⟩
  obtain ⟨hD, hq, b, hb1, rfl⟩ := hI
  have org := org_list (hs := hs) hc hv
  have hv2 : v < 2 ^ w := by
    rw [← hv]
    exact Nat.lt_of_le_of_lt Nat.and_le_right hc
  refine sq_cut (fun ρ S' => S' = S9 ∧ ρ = [some (.fro (ns.map D.int)), some (.ref n), some (nt w), some (nt (2 ^ w)), x_step, some (nt c), some (nt v), some (.tup [nt d, nt u]), some (.ref p), x_header, x_turn, x_both, some (.ref q), some (nt (ofL hs)), some (.ref b), x_made, x_whole]) (fun N hN' => ?_) (fun ρ S10 hI => ?_)
  · walk_at "w"
    refine callI rfl ⟨ofL hs, c, v, w, rfl, hw13, hc, hv, callI rfl ⟨b, _, rfl, hb1, fun h hm => ?_, n_ne ?_⟩⟩
    · have := List.mem_range.mp (List.mem_filter.mp hm).1
      omega
    · rw [decide_eq_true org]
      exact hN' _ _ ⟨rfl, rfl⟩
  obtain ⟨rfl, rfl⟩ := hI
  refine sq_cut (fun ρ S' => S' = S10 ∧ ρ = [some (.fro (ns.map D.int)), some (.ref n), some (nt w), some (nt (2 ^ w)), x_step, some (nt c), some (nt v), some (.tup [nt d, nt u]), some (.ref p), x_header, x_turn, x_both, some (.ref q), some (nt (ofL hs)), some (.ref b), x_made, x_whole]) (fun N hN' => ?_) (fun ρ S11 hI => ?_)
  · walk_at "w"
    refine callI rfl ⟨ofL hs, c, v, w, rfl, hw13, hc, hv, hL, callI rfl ⟨_, c, v, w, rfl, hw13, hc, hv, n_and (n_ne ?_)⟩⟩
    have e : ofL hs &&& orgK (imgK (ofL hs) c v w w) c v w w = ofL hs := bit_ext fun g => by
      rw [Nat.testBit_and, org_end hc hv2]
      cases hg : (ofL hs).testBit g with
      | false => rfl
      | true =>
        have hgm := hg
        rw [ofL_bit, decide_eq_true_eq] at hgm
        have hgl := hb g hgm
        rw [decide_eq_true hgl, img_bit, decide_eq_true (put_lt hv hc hgl), (img_end hc hv2).mpr ⟨g, hgl, hg, rfl⟩]
        rfl
    rw [decide_eq_true e]
    exact hN' _ _ ⟨rfl, rfl⟩
  obtain ⟨rfl, rfl⟩ := hI
  refine sq_cut (fun ρ S' => S' = S11 ∧ ρ = [some (.fro (ns.map D.int)), some (.ref n), some (nt w), some (nt (2 ^ w)), x_step, some (nt c), some (nt v), some (.tup [nt d, nt u]), some (.ref p), x_header, x_turn, x_both, some (.ref q), some (nt (ofL hs)), some (.ref b), some (nt (ofL (hs.filter fun h => decide (h &&& c = v)))), x_whole]) (fun N hN' => ?_) (fun ρ S12 hI => ?_)
  · walk_at "w"
    have hol : orgK (ofL hs) c v w w < 2 ^ 2 ^ w := by unfold orgK; exact mk_lt ..
    refine callI rfl ⟨ofL hs, c, v, w, rfl, hw13, hc, hv, callI rfl ⟨_, c, v, w, rfl, hw13, hc, hv, hol, ?_⟩⟩
    have e : imgK (orgK (ofL hs) c v w w) c v w w = ofL (hs.filter fun h => decide (h &&& c = v)) := bit_ext fun g => by
      rw [img_bit, ofL_bit, Bool.eq_iff_iff, Bool.and_eq_true, decide_eq_true_eq, decide_eq_true_eq, img_end hc hv2, List.mem_filter, decide_eq_true_eq]
      constructor
      · rintro ⟨h1, h, h2, h3, rfl⟩
        rw [org_end hc hv2, Bool.and_eq_true, ofL_bit, decide_eq_true_eq, decide_eq_true_eq] at h3
        exact ⟨h3.2, put_in hv⟩
      · rintro ⟨h1, h2⟩
        have e := put_same hv h2
        refine ⟨hb g h1, g, hb g h1, ?_, e⟩
        rw [org_end hc hv2, e, ofL_bit, decide_eq_true h1, decide_eq_true (hb g h1)]
        rfl
    rw [e]
    exact hN' _ _ ⟨rfl, rfl⟩
  obtain ⟨rfl, rfl⟩ := hI
  walk_at "w"
  refine ⟨_, hq, ?_⟩
  refine lcI (fun i acc S' => S' = S12 ∧ acc = ((hs.take i).filter fun h => decide (h &&& c = v)).map nt) ⟨rfl, rfl⟩ (fun i x acc S' N hx hI hN => ?_) (fun acc S' hI => ?_)
  · obtain ⟨rfl, rfl⟩ := hI
    refine ⟨hq, ?_⟩
    rw [List.getElem?_map] at hx
    cases hxi : hs[i]? with
    | none => rw [hxi] at hx; cases hx
    | some h =>
      rw [hxi] at hx
      cases hx
      walk_at "w"
      refine n_and (n_eq ?_)
      walk_at "w"
      have hi := (List.getElem?_eq_some_iff.mp hxi).1
      have hln : ((hs.take i).filter fun h => decide (h &&& c = v)).length ≤ i := by
        have := List.length_filter_le (fun h => decide (h &&& c = v)) (hs.take i)
        rw [List.length_take] at this
        omega
      cases hbb : decide (h &&& c = v) with
      | true =>
        refine ⟨?_, hN _ _ ⟨rfl, ?_⟩⟩
        · rw [List.length_map]
          exact sz_of' (by omega)
        · rw [take_succ hxi, List.filter_append, List.map_append]
          simp [hbb]
      | false =>
        refine hN _ _ ⟨rfl, ?_⟩
        rw [take_succ hxi, List.filter_append, List.map_append]
        simp [hbb]
  · obtain ⟨rfl, rfl⟩ := hI
    refine ⟨hq, ?_⟩
    rw [List.length_map, List.take_length]
    refine callI rfl ⟨_, _, rfl, push_at, fun h hm => hb8 h (List.mem_filter.mp hm).1, n_ne ?_⟩
    rw [decide_eq_true rfl]
    exact hN _ _ ⟨hD.ext (Ext.push _ _), _, _, _, _, _, _, _, _, _, _, _, _, _, rfl⟩
def sp_law : Spec := fun ds S Q => ∃ ns : List Int, ds = [.fro (ns.map D.int)] ∧ ∀ S', Q (.bl true) S'
theorem good_law : Good 17 1 (c_law sp_law_begin sp_law_rare sp_law_draw sp_law_cube sp_law_bitwise sp_set_header sp_then_set sp_law_lot sp_image sp_origin) sp_law := by
  intro ds S Q _ h
  obtain ⟨ns, rfl, q⟩ := h
  show c_law sp_law_begin sp_law_rare sp_law_draw sp_law_cube sp_law_bitwise sp_set_header sp_then_set sp_law_lot sp_image sp_origin (kkOf Q) [some (.fro (ns.map D.int)), none, none, none, none, none, none, none, none, none, none, none, none, none, none, none, none] S
  unfold c_law
  refine sq_cut (fun ρ S' => ∃ n, DrawS S' n ∧ ρ = [some (.fro (ns.map D.int)), some (.ref n), none, none, none, none, none, none, none, none, none, none, none, none, none, none, none]) (fun N hN => ?_) (fun ρ S1 hI => ?_)
  · walk_at "w"
    exact callI rfl ⟨ns, rfl, fun n S' _ _ hD => hN _ _ ⟨n, hD, rfl⟩⟩
  obtain ⟨n, hD, rfl⟩ := hI
  refine sq_cut (fun ρ S' => ∃ w, w ≤ 10 ∧ DrawS S' n ∧ ρ = [some (.fro (ns.map D.int)), some (.ref n), some (nt w), none, none, none, none, none, none, none, none, none, none, none, none, none, none]) (fun N hN => ?_) (fun ρ S2 hI => ?_)
  · walk_at "w"
    refine callI rfl ⟨n, 25, rfl, hD, lt_big (n := 5) (by decide) (by decide), fun r S2 h3 h4 => ?_⟩
    walk_at "w"
    cases r with
    | true => exact hN _ _ ⟨10, by decide, h3, rfl⟩
    | false =>
      walk_at "w"
      refine callI rfl ⟨n, 6, rfl, h3, lt_big (n := 3) (by decide) (by decide), fun r S3 g1 g2 g3 g4 => n_add (a := 1) ?_⟩
      have := g1 (by decide)
      exact hN _ _ ⟨1 + r, by omega, g3, rfl⟩
  obtain ⟨w, hw, hD, rfl⟩ := hI
  have hp := pow13 (show w ≤ 13 by omega)
  have hp0 := Nat.two_pow_pos w
  refine sq_cut (fun ρ S' => S' = S2 ∧ ρ = [some (.fro (ns.map D.int)), some (.ref n), some (nt w), some (nt (2 ^ w)), none, none, none, none, none, none, none, none, none, none, none, none, none]) (fun N hN => ?_) (fun ρ S3 hI => ?_)
  · walk_at "w"
    exact n_shl1 (by omega) (hN _ _ ⟨rfl, rfl⟩)
  obtain ⟨rfl, rfl⟩ := hI
  refine sq_cut (fun ρ S' => LI2 ns n w ρ S') (fun N hN => ?_) (fun ρ S4 hI => ?_)
  · walk_at "w"
    refine ⟨by decide, ?_⟩
    refine forR (fun _ ρ S' => LI2 ns n w ρ S') ⟨hD, _, _, _, _, _, _, _, _, _, _, _, _, _, rfl⟩ (fun i ρ S' N' hi hI hN' => ?_) (fun ρ S' hI => hN _ _ hI)
    obtain ⟨hD, x_step, x_care, x_value, x_other, x_after, x_header, x_turn, x_both, x_headers, x_lot, x_back, x_made, x_whole, rfl⟩ := hI
    walk_at "w"
    exact body2 hw hD hN'
  obtain ⟨hD, x_step, x_care, x_value, x_other, x_after, x_header, x_turn, x_both, x_headers, x_lot, x_back, x_made, x_whole, rfl⟩ := hI
  walk_at "w"
  have all0 : imgK (2 ^ 2 ^ w - 1) 0 0 w w = 2 ^ 2 ^ w - 1 := bit_ext fun g => by
    rw [img_bit, Nat.testBit_two_pow_sub_one]
    cases hg : decide (g < 2 ^ w) with
    | false => rfl
    | true => 
      rw [(img_end hp0 hp0).mpr ⟨g, of_decide_eq_true hg, by rw [Nat.testBit_two_pow_sub_one]; exact hg, put_same rfl (Nat.and_zero g)⟩]
      rfl
  have no0 : imgK 0 0 0 w w = 0 := bit_ext fun g => by
    rw [img_bit, Nat.zero_testBit]
    cases hg : imgB 0 0 0 w w g with
    | false => simp
    | true =>
      obtain ⟨h, h1, h2, h3⟩ := (img_end hp0 hp0).mp hg
      rw [Nat.zero_testBit] at h2
      cases h2
  have no1 : orgK 0 0 0 w w = 0 := bit_ext fun g => by
    rw [org_end hp0 hp0, Nat.zero_testBit, Nat.zero_testBit]
    simp
  refine n_shl1 (by omega) (n_sub (b := 1) (Nat.two_pow_pos _) ?_)
  refine callI rfl ⟨2 ^ 2 ^ w - 1, 0, 0, w, rfl, by omega, hp0, rfl, ?_, n_eq ?_⟩
  · have := Nat.two_pow_pos (2 ^ w)
    omega
  rw [decide_eq_true all0]
  walk_at "w"
  refine callI rfl ⟨0, 0, 0, w, rfl, by omega, hp0, rfl, Nat.two_pow_pos _, n_eq (b := 0) ?_⟩
  rw [decide_eq_true no0]
  walk_at "w"
  refine callI rfl ⟨0, 0, 0, w, rfl, by omega, hp0, rfl, n_eq (b := 0) ?_⟩
  rw [decide_eq_true no1]
  exact q _
end WW


set_option Elab.async false
set_option linter.all false
set_option maxRecDepth 100000
set_option maxHeartbeats 4000000
set_option autoImplicit false
namespace WW
open PySem PySem.Spec PyProof.Rows L2
theorem rep_ints {K : PySem.W.Frag} {H : Hp} {ι : List Addr} : ∀ ns : List Int, RepVs K H ι (ns.map D.int) (ns.map V.int)
  | [] => rfl
  | n :: r => ⟨_, _, rfl, rfl, rep_ints r⟩
theorem law_start {K : PySem.W.Frag} {H : Hp} {a : Addr} {ns : List Int} {E : XK} {sp : Spec} (hO : L2.Only H) (hS : SqL K H a (ns.map V.int)) (h : ∀ (S : Sto) (Q : Q1), (∀ S', Q (.bl true) S') → sp [.fro (ns.map D.int)] S Q) :
    spOf K 1 sp [.ref a] H (fun v _ => v = .bl true) E := by
  refine ⟨[], [], [.fro (ns.map D.int)], ⟨rfl, List.Pairwise.nil, fun n a o h => by simp at h⟩, ⟨.ref a, [], rfl, ⟨a, ns.map V.int, rfl, ?_, rep_ints ns⟩, rfl⟩, rfl, fun d _ => d = .bl true, h _ _ fun _ => rfl, fun d S' e v H' ι' T R r => ?_⟩
  · rcases hS with (hS | ⟨o, hS⟩) | hS
    · rcases hO a with z | ⟨o, xs, z⟩
      · rw [z] at hS; cases hS
      · rw [z] at hS; cases hS
    · exact .inl ⟨o, hS⟩
    · exact .inr fun H' => .inr hS
  · subst e
    exact r
end WW


set_option Elab.async false
set_option linter.all false
set_option maxRecDepth 100000
set_option maxHeartbeats 4000000
set_option autoImplicit false
namespace WW
open PySem PySem.Spec PyProof.Rows L2
def topS (i : Nat) : Stmt := PySem.Challenge.pw_wishweather_k02_settings.main.body.getD i (.Pass ⟨0, 0, 0, 0⟩)
def B0 : List Str := [Str.ofString "int", Str.ofString "len", Str.ofString "list", Str.ofString "range", Str.ofString "set", Str.ofString "sorted"]
abbrev s_all_lot : Stmt := topS 1
theorem sc_all_lot : FnScope ["width"] ["width"] (defScope s_all_lot) := ⟨rfl, rfl, rfl, by decide +kernel, rfl, by decide +kernel, by decide +kernel⟩
theorem tr_all_lot : trL (ctOf ["width"] s_all_lot [] B0) 60 (defBody s_all_lot) = some (c_all_lot) := by kernel_rfl
abbrev s_zeros_lot : Stmt := topS 2
theorem sc_zeros_lot : FnScope ["bit", "width"] ["bit", "width"] (defScope s_zeros_lot) := ⟨rfl, rfl, rfl, by decide +kernel, rfl, by decide +kernel, by decide +kernel⟩
theorem tr_zeros_lot (p_all_lot : Spec) : trL (ctOf ["bit", "width"] s_zeros_lot [("all_lot", 1, p_all_lot)] B0) 60 (defBody s_zeros_lot) = some (c_zeros_lot p_all_lot) := by kernel_rfl
abbrev s_lot_of : Stmt := topS 3
theorem sc_lot_of : FnScope ["care", "value", "width", "lot", "bit", "low"] ["care", "value", "width"] (defScope s_lot_of) := ⟨rfl, rfl, rfl, by decide +kernel, rfl, by decide +kernel, by decide +kernel⟩
theorem tr_lot_of (p_all_lot : Spec) (p_zeros_lot : Spec) : trL (ctOf ["care", "value", "width", "lot", "bit", "low"] s_lot_of [("all_lot", 1, p_all_lot), ("zeros_lot", 2, p_zeros_lot)] B0) 60 (defBody s_lot_of) = some (c_lot_of p_all_lot p_zeros_lot) := by kernel_rfl
abbrev s_set_header : Stmt := topS 4
theorem sc_set_header : FnScope ["header", "care", "value"] ["header", "care", "value"] (defScope s_set_header) := ⟨rfl, rfl, rfl, by decide +kernel, rfl, by decide +kernel, by decide +kernel⟩
theorem tr_set_header : trL (ctOf ["header", "care", "value"] s_set_header [] B0) 60 (defBody s_set_header) = some (c_set_header) := by kernel_rfl
abbrev s_then_set : Stmt := topS 5
theorem sc_then_set : FnScope ["first", "second", "care", "value", "later", "worth"] ["first", "second"] (defScope s_then_set) := ⟨rfl, rfl, rfl, by decide +kernel, rfl, by decide +kernel, by decide +kernel⟩
theorem tr_then_set : trL (ctOf ["first", "second", "care", "value", "later", "worth"] s_then_set [] B0) 60 (defBody s_then_set) = some (c_then_set) := by kernel_rfl
abbrev s_image : Stmt := topS 6
theorem sc_image : FnScope ["lot", "care", "value", "width", "bit", "low", "high", "size"] ["lot", "care", "value", "width"] (defScope s_image) := ⟨rfl, rfl, rfl, by decide +kernel, rfl, by decide +kernel, by decide +kernel⟩
theorem tr_image (p_zeros_lot : Spec) : trL (ctOf ["lot", "care", "value", "width", "bit", "low", "high", "size"] s_image [("zeros_lot", 2, p_zeros_lot)] B0) 60 (defBody s_image) = some (c_image p_zeros_lot) := by kernel_rfl
abbrev s_origin : Stmt := topS 7
theorem sc_origin : FnScope ["lot", "care", "value", "width", "bit", "size"] ["lot", "care", "value", "width"] (defScope s_origin) := ⟨rfl, rfl, rfl, by decide +kernel, rfl, by decide +kernel, by decide +kernel⟩
theorem tr_origin (p_lot_of : Spec) : trL (ctOf ["lot", "care", "value", "width", "bit", "size"] s_origin [("lot_of", 3, p_lot_of)] B0) 60 (defBody s_origin) = some (c_origin p_lot_of) := by kernel_rfl
abbrev s_law_begin : Stmt := topS 9
theorem sc_law_begin : FnScope ["script"] ["script"] (defScope s_law_begin) := ⟨rfl, rfl, rfl, by decide +kernel, rfl, by decide +kernel, by decide +kernel⟩
theorem tr_law_begin : trL (ctOf ["script"] s_law_begin [] B0) 60 (defBody s_law_begin) = some (c_law_begin) := by kernel_rfl
abbrev s_law_draw : Stmt := topS 10
theorem sc_law_draw : FnScope ["d", "many", "cell", "number", "digit", "mixed"] ["d", "many"] (defScope s_law_draw) := ⟨rfl, rfl, rfl, by decide +kernel, rfl, by decide +kernel, by decide +kernel⟩
theorem tr_law_draw : trL (ctOf ["d", "many", "cell", "number", "digit", "mixed"] s_law_draw [] B0) 60 (defBody s_law_draw) = some (c_law_draw) := by kernel_rfl
abbrev s_law_rare : Stmt := topS 11
theorem sc_law_rare : FnScope ["d", "many"] ["d", "many"] (defScope s_law_rare) := ⟨rfl, rfl, rfl, by decide +kernel, rfl, by decide +kernel, by decide +kernel⟩
theorem tr_law_rare (p_law_draw : Spec) : trL (ctOf ["d", "many"] s_law_rare [("_law_draw", 2, p_law_draw)] B0) 60 (defBody s_law_rare) = some (c_law_rare p_law_draw) := by kernel_rfl
abbrev s_law_lot : Stmt := topS 12
theorem sc_law_lot : FnScope ["headers", "lot", "header"] ["headers"] (defScope s_law_lot) := ⟨rfl, rfl, rfl, by decide +kernel, rfl, by decide +kernel, by decide +kernel⟩
theorem tr_law_lot : trL (ctOf ["headers", "lot", "header"] s_law_lot [] B0) 60 (defBody s_law_lot) = some (c_law_lot) := by kernel_rfl
abbrev s_law_cube : Stmt := topS 13
theorem sc_law_cube : FnScope ["d", "bits", "care"] ["d", "bits"] (defScope s_law_cube) := ⟨rfl, rfl, rfl, by decide +kernel, rfl, by decide +kernel, by decide +kernel⟩
theorem tr_law_cube (p_law_draw : Spec) : trL (ctOf ["d", "bits", "care"] s_law_cube [("_law_draw", 2, p_law_draw)] B0) 60 (defBody s_law_cube) = some (c_law_cube p_law_draw) := by kernel_rfl
abbrev s_law_bitwise : Stmt := topS 14
theorem sc_law_bitwise : FnScope ["header", "care", "value", "width", "found", "bit", "source"] ["header", "care", "value", "width"] (defScope s_law_bitwise) := ⟨rfl, rfl, rfl, by decide +kernel, rfl, by decide +kernel, by decide +kernel⟩
theorem tr_law_bitwise : trL (ctOf ["header", "care", "value", "width", "found", "bit", "source"] s_law_bitwise [] B0) 60 (defBody s_law_bitwise) = some (c_law_bitwise) := by kernel_rfl
abbrev s_law : Stmt := topS 15
theorem sc_law : FnScope ["script", "d", "width", "many", "step", "care", "value", "other", "after", "header", "turn", "both", "headers", "lot", "back", "made", "whole"] ["script"] (defScope s_law) := ⟨rfl, rfl, rfl, by decide +kernel, rfl, by decide +kernel, by decide +kernel⟩
theorem tr_law (p_law_begin : Spec) (p_law_rare : Spec) (p_law_draw : Spec) (p_law_cube : Spec) (p_law_bitwise : Spec) (p_set_header : Spec) (p_then_set : Spec) (p_law_lot : Spec) (p_image : Spec) (p_origin : Spec) : trL (ctOf ["script", "d", "width", "many", "step", "care", "value", "other", "after", "header", "turn", "both", "headers", "lot", "back", "made", "whole"] s_law [("_law_begin", 1, p_law_begin), ("_law_rare", 2, p_law_rare), ("_law_draw", 2, p_law_draw), ("_law_cube", 2, p_law_cube), ("_law_bitwise", 4, p_law_bitwise), ("set_header", 3, p_set_header), ("then_set", 2, p_then_set), ("_law_lot", 1, p_law_lot), ("image", 4, p_image), ("origin", 4, p_origin)] B0) 60 (defBody s_law) = some (c_law p_law_begin p_law_rare p_law_draw p_law_cube p_law_bitwise p_set_header p_then_set p_law_lot p_image p_origin) := by kernel_rfl
theorem all_mk {l : PySem.W.OpenLaw} {w : World} {K : PySem.W.Frag} {h : Heap} {mg : Str → Option Value} {fa : Addr} (X : K.In h) (G : h.Ns mainGlobals mg) (hfa : mg "law" = some (.ref fa))
    {f0 : Addr} {od0 an0 : Option Addr} {sl0 : Array (Option Value)} {oc0 kV0 dc0 pm0 cd0 ct0 : Value}
    {f1 : Addr} {od1 an1 : Option Addr} {sl1 : Array (Option Value)} {oc1 kV1 dc1 pm1 cd1 ct1 : Value}
    {f2 : Addr} {od2 an2 : Option Addr} {sl2 : Array (Option Value)} {oc2 kV2 dc2 pm2 cd2 ct2 : Value}
    {f3 : Addr} {od3 an3 : Option Addr} {sl3 : Array (Option Value)} {oc3 kV3 dc3 pm3 cd3 ct3 : Value}
    {f4 : Addr} {od4 an4 : Option Addr} {sl4 : Array (Option Value)} {oc4 kV4 dc4 pm4 cd4 ct4 : Value}
    {f5 : Addr} {od5 an5 : Option Addr} {sl5 : Array (Option Value)} {oc5 kV5 dc5 pm5 cd5 ct5 : Value}
    {f6 : Addr} {od6 an6 : Option Addr} {sl6 : Array (Option Value)} {oc6 kV6 dc6 pm6 cd6 ct6 : Value}
    {f7 : Addr} {od7 an7 : Option Addr} {sl7 : Array (Option Value)} {oc7 kV7 dc7 pm7 cd7 ct7 : Value}
    {f8 : Addr} {od8 an8 : Option Addr} {sl8 : Array (Option Value)} {oc8 kV8 dc8 pm8 cd8 ct8 : Value}
    {f9 : Addr} {od9 an9 : Option Addr} {sl9 : Array (Option Value)} {oc9 kV9 dc9 pm9 cd9 ct9 : Value}
    {f10 : Addr} {od10 an10 : Option Addr} {sl10 : Array (Option Value)} {oc10 kV10 dc10 pm10 cd10 ct10 : Value}
    {f11 : Addr} {od11 an11 : Option Addr} {sl11 : Array (Option Value)} {oc11 kV11 dc11 pm11 cd11 ct11 : Value}
    {f12 : Addr} {od12 an12 : Option Addr} {sl12 : Array (Option Value)} {oc12 kV12 dc12 pm12 cd12 ct12 : Value}
    {f13 : Addr} {od13 an13 : Option Addr} {sl13 : Array (Option Value)} {oc13 kV13 dc13 pm13 cd13 ct13 : Value}
    (a0 : PySem.W.nsIn K mainGlobals "all_lot" = some (some (.ref f0))) (l0 : K.lookup f0 = some ⟨oc0, od0, .func (PySem.W.fnOf "all_lot" "all_lot" (defArgs s_all_lot) (defBody s_all_lot) (defScope s_all_lot) .none kV0 dc0 pm0 an0 cd0 ct0), sl0⟩) (c0 : PySem.W.codeIn K cd0 "all_lot" = true) (k0 : PySem.W.keepIn K (.ref f0) = true)
    (a1 : PySem.W.nsIn K mainGlobals "zeros_lot" = some (some (.ref f1))) (l1 : K.lookup f1 = some ⟨oc1, od1, .func (PySem.W.fnOf "zeros_lot" "zeros_lot" (defArgs s_zeros_lot) (defBody s_zeros_lot) (defScope s_zeros_lot) .none kV1 dc1 pm1 an1 cd1 ct1), sl1⟩) (c1 : PySem.W.codeIn K cd1 "zeros_lot" = true) (k1 : PySem.W.keepIn K (.ref f1) = true)
    (a2 : PySem.W.nsIn K mainGlobals "lot_of" = some (some (.ref f2))) (l2 : K.lookup f2 = some ⟨oc2, od2, .func (PySem.W.fnOf "lot_of" "lot_of" (defArgs s_lot_of) (defBody s_lot_of) (defScope s_lot_of) .none kV2 dc2 pm2 an2 cd2 ct2), sl2⟩) (c2 : PySem.W.codeIn K cd2 "lot_of" = true) (k2 : PySem.W.keepIn K (.ref f2) = true)
    (a3 : PySem.W.nsIn K mainGlobals "set_header" = some (some (.ref f3))) (l3 : K.lookup f3 = some ⟨oc3, od3, .func (PySem.W.fnOf "set_header" "set_header" (defArgs s_set_header) (defBody s_set_header) (defScope s_set_header) .none kV3 dc3 pm3 an3 cd3 ct3), sl3⟩) (c3 : PySem.W.codeIn K cd3 "set_header" = true) (k3 : PySem.W.keepIn K (.ref f3) = true)
    (a4 : PySem.W.nsIn K mainGlobals "then_set" = some (some (.ref f4))) (l4 : K.lookup f4 = some ⟨oc4, od4, .func (PySem.W.fnOf "then_set" "then_set" (defArgs s_then_set) (defBody s_then_set) (defScope s_then_set) .none kV4 dc4 pm4 an4 cd4 ct4), sl4⟩) (c4 : PySem.W.codeIn K cd4 "then_set" = true) (k4 : PySem.W.keepIn K (.ref f4) = true)
    (a5 : PySem.W.nsIn K mainGlobals "image" = some (some (.ref f5))) (l5 : K.lookup f5 = some ⟨oc5, od5, .func (PySem.W.fnOf "image" "image" (defArgs s_image) (defBody s_image) (defScope s_image) .none kV5 dc5 pm5 an5 cd5 ct5), sl5⟩) (c5 : PySem.W.codeIn K cd5 "image" = true) (k5 : PySem.W.keepIn K (.ref f5) = true)
    (a6 : PySem.W.nsIn K mainGlobals "origin" = some (some (.ref f6))) (l6 : K.lookup f6 = some ⟨oc6, od6, .func (PySem.W.fnOf "origin" "origin" (defArgs s_origin) (defBody s_origin) (defScope s_origin) .none kV6 dc6 pm6 an6 cd6 ct6), sl6⟩) (c6 : PySem.W.codeIn K cd6 "origin" = true) (k6 : PySem.W.keepIn K (.ref f6) = true)
    (a7 : PySem.W.nsIn K mainGlobals "_law_begin" = some (some (.ref f7))) (l7 : K.lookup f7 = some ⟨oc7, od7, .func (PySem.W.fnOf "_law_begin" "_law_begin" (defArgs s_law_begin) (defBody s_law_begin) (defScope s_law_begin) .none kV7 dc7 pm7 an7 cd7 ct7), sl7⟩) (c7 : PySem.W.codeIn K cd7 "_law_begin" = true) (k7 : PySem.W.keepIn K (.ref f7) = true)
    (a8 : PySem.W.nsIn K mainGlobals "_law_draw" = some (some (.ref f8))) (l8 : K.lookup f8 = some ⟨oc8, od8, .func (PySem.W.fnOf "_law_draw" "_law_draw" (defArgs s_law_draw) (defBody s_law_draw) (defScope s_law_draw) .none kV8 dc8 pm8 an8 cd8 ct8), sl8⟩) (c8 : PySem.W.codeIn K cd8 "_law_draw" = true) (k8 : PySem.W.keepIn K (.ref f8) = true)
    (a9 : PySem.W.nsIn K mainGlobals "_law_rare" = some (some (.ref f9))) (l9 : K.lookup f9 = some ⟨oc9, od9, .func (PySem.W.fnOf "_law_rare" "_law_rare" (defArgs s_law_rare) (defBody s_law_rare) (defScope s_law_rare) .none kV9 dc9 pm9 an9 cd9 ct9), sl9⟩) (c9 : PySem.W.codeIn K cd9 "_law_rare" = true) (k9 : PySem.W.keepIn K (.ref f9) = true)
    (a10 : PySem.W.nsIn K mainGlobals "_law_lot" = some (some (.ref f10))) (l10 : K.lookup f10 = some ⟨oc10, od10, .func (PySem.W.fnOf "_law_lot" "_law_lot" (defArgs s_law_lot) (defBody s_law_lot) (defScope s_law_lot) .none kV10 dc10 pm10 an10 cd10 ct10), sl10⟩) (c10 : PySem.W.codeIn K cd10 "_law_lot" = true) (k10 : PySem.W.keepIn K (.ref f10) = true)
    (a11 : PySem.W.nsIn K mainGlobals "_law_cube" = some (some (.ref f11))) (l11 : K.lookup f11 = some ⟨oc11, od11, .func (PySem.W.fnOf "_law_cube" "_law_cube" (defArgs s_law_cube) (defBody s_law_cube) (defScope s_law_cube) .none kV11 dc11 pm11 an11 cd11 ct11), sl11⟩) (c11 : PySem.W.codeIn K cd11 "_law_cube" = true) (k11 : PySem.W.keepIn K (.ref f11) = true)
    (a12 : PySem.W.nsIn K mainGlobals "_law_bitwise" = some (some (.ref f12))) (l12 : K.lookup f12 = some ⟨oc12, od12, .func (PySem.W.fnOf "_law_bitwise" "_law_bitwise" (defArgs s_law_bitwise) (defBody s_law_bitwise) (defScope s_law_bitwise) .none kV12 dc12 pm12 an12 cd12 ct12), sl12⟩) (c12 : PySem.W.codeIn K cd12 "_law_bitwise" = true) (k12 : PySem.W.keepIn K (.ref f12) = true)
    (a13 : PySem.W.nsIn K mainGlobals "law" = some (some (.ref f13))) (l13 : K.lookup f13 = some ⟨oc13, od13, .func (PySem.W.fnOf "law" "law" (defArgs s_law) (defBody s_law) (defScope s_law) .none kV13 dc13 pm13 an13 cd13 ct13), sl13⟩) (c13 : PySem.W.codeIn K cd13 "law" = true) (k13 : PySem.W.keepIn K (.ref f13) = true)
    (z0 : PySem.W.nsIn K mainGlobals "int" = some none)
    (z1 : PySem.W.nsIn K mainGlobals "len" = some none)
    (z2 : PySem.W.nsIn K mainGlobals "list" = some none)
    (z3 : PySem.W.nsIn K mainGlobals "range" = some none)
    (z4 : PySem.W.nsIn K mainGlobals "set" = some none)
    (z5 : PySem.W.nsIn K mainGlobals "sorted" = some none) :
    ∃ fd : FuncData, (∀ (s : Shared) (v : Value), BindsTo s fd ⟨[v], []⟩ [("script", v)]) ∧ ∀ base : Heap, K.In base → base.Ns mainGlobals mg → FnOk l.prog w K mg base CX0 5 fa fd ["script"] (spOf K 1 sp_law) := by
  have e := hfa.symm.trans (PySem.W.mg_of X G a13)
  cases e
  have F0 := fun_mk (st := s_all_lot) l0 c0 k0
  have b0 := F0.binds (ps := ["width"]) fun _ _ _ _ _ _ us hl => match us, hl with | [_], _ => rfl
  have F1 := fun_mk (st := s_zeros_lot) l1 c1 k1
  have b1 := F1.binds (ps := ["bit", "width"]) fun _ _ _ _ _ _ us hl => match us, hl with | [_, _], _ => rfl
  have F2 := fun_mk (st := s_lot_of) l2 c2 k2
  have b2 := F2.binds (ps := ["care", "value", "width"]) fun _ _ _ _ _ _ us hl => match us, hl with | [_, _, _], _ => rfl
  have F3 := fun_mk (st := s_set_header) l3 c3 k3
  have b3 := F3.binds (ps := ["header", "care", "value"]) fun _ _ _ _ _ _ us hl => match us, hl with | [_, _, _], _ => rfl
  have F4 := fun_mk (st := s_then_set) l4 c4 k4
  have b4 := F4.binds (ps := ["first", "second"]) fun _ _ _ _ _ _ us hl => match us, hl with | [_, _], _ => rfl
  have F5 := fun_mk (st := s_image) l5 c5 k5
  have b5 := F5.binds (ps := ["lot", "care", "value", "width"]) fun _ _ _ _ _ _ us hl => match us, hl with | [_, _, _, _], _ => rfl
  have F6 := fun_mk (st := s_origin) l6 c6 k6
  have b6 := F6.binds (ps := ["lot", "care", "value", "width"]) fun _ _ _ _ _ _ us hl => match us, hl with | [_, _, _, _], _ => rfl
  have F7 := fun_mk (st := s_law_begin) l7 c7 k7
  have b7 := F7.binds (ps := ["script"]) fun _ _ _ _ _ _ us hl => match us, hl with | [_], _ => rfl
  have F8 := fun_mk (st := s_law_draw) l8 c8 k8
  have b8 := F8.binds (ps := ["d", "many"]) fun _ _ _ _ _ _ us hl => match us, hl with | [_, _], _ => rfl
  have F9 := fun_mk (st := s_law_rare) l9 c9 k9
  have b9 := F9.binds (ps := ["d", "many"]) fun _ _ _ _ _ _ us hl => match us, hl with | [_, _], _ => rfl
  have F10 := fun_mk (st := s_law_lot) l10 c10 k10
  have b10 := F10.binds (ps := ["headers"]) fun _ _ _ _ _ _ us hl => match us, hl with | [_], _ => rfl
  have F11 := fun_mk (st := s_law_cube) l11 c11 k11
  have b11 := F11.binds (ps := ["d", "bits"]) fun _ _ _ _ _ _ us hl => match us, hl with | [_, _], _ => rfl
  have F12 := fun_mk (st := s_law_bitwise) l12 c12 k12
  have b12 := F12.binds (ps := ["header", "care", "value", "width"]) fun _ _ _ _ _ _ us hl => match us, hl with | [_, _, _, _], _ => rfl
  have F13 := fun_mk (st := s_law) l13 c13 k13
  have hB : ∀ y ∈ B0, mg y = none := fun y hy => by
    simp only [B0, List.mem_cons, List.not_mem_nil, or_false] at hy
    rcases hy with rfl | rfl | rfl | rfl | rfl | rfl
    · exact PySem.W.mg_none_of X G z0
    · exact PySem.W.mg_none_of X G z1
    · exact PySem.W.mg_none_of X G z2
    · exact PySem.W.mg_none_of X G z3
    · exact PySem.W.mg_none_of X G z4
    · exact PySem.W.mg_none_of X G z5
  refine ⟨PySem.W.fnOf "law" "law" (defArgs s_law) (defBody s_law) (defScope s_law) .none kV13 dc13 pm13 an13 cd13 ct13, fun s v => .of_eq rfl, fun base _ _ => ?_⟩
  have n0 : Known l.prog w K mg base 1 "all_lot" 1 sp_all_lot := known (k := 0) F0 sc_all_lot known_nil hB (tr_all_lot) good_all_lot (PySem.W.mg_of X G a0) b0
  have n1 : Known l.prog w K mg base 2 "zeros_lot" 2 sp_zeros_lot := known (k := 1) F1 sc_zeros_lot (known_cons (n0.mono (by decide)) known_nil) hB (tr_zeros_lot sp_all_lot) good_zeros_lot (PySem.W.mg_of X G a1) b1
  have n2 : Known l.prog w K mg base 3 "lot_of" 3 sp_lot_of := known (k := 2) F2 sc_lot_of (known_cons (n0.mono (by decide)) (known_cons (n1.mono (by decide)) known_nil)) hB (tr_lot_of sp_all_lot sp_zeros_lot) good_lot_of (PySem.W.mg_of X G a2) b2
  have n3 : Known l.prog w K mg base 1 "set_header" 3 sp_set_header := known (k := 0) F3 sc_set_header known_nil hB (tr_set_header) good_set_header (PySem.W.mg_of X G a3) b3
  have n4 : Known l.prog w K mg base 1 "then_set" 2 sp_then_set := known (k := 0) F4 sc_then_set known_nil hB (tr_then_set) good_then_set (PySem.W.mg_of X G a4) b4
  have n5 : Known l.prog w K mg base 3 "image" 4 sp_image := known (k := 2) F5 sc_image (known_cons (n1.mono (by decide)) known_nil) hB (tr_image sp_zeros_lot) good_image (PySem.W.mg_of X G a5) b5
  have n6 : Known l.prog w K mg base 4 "origin" 4 sp_origin := known (k := 3) F6 sc_origin (known_cons (n2.mono (by decide)) known_nil) hB (tr_origin sp_lot_of) good_origin (PySem.W.mg_of X G a6) b6
  have n7 : Known l.prog w K mg base 1 "_law_begin" 1 sp_law_begin := known (k := 0) F7 sc_law_begin known_nil hB (tr_law_begin) good_law_begin (PySem.W.mg_of X G a7) b7
  have n8 : Known l.prog w K mg base 1 "_law_draw" 2 sp_law_draw := known (k := 0) F8 sc_law_draw known_nil hB (tr_law_draw) good_law_draw (PySem.W.mg_of X G a8) b8
  have n9 : Known l.prog w K mg base 2 "_law_rare" 2 sp_law_rare := known (k := 1) F9 sc_law_rare (known_cons (n8.mono (by decide)) known_nil) hB (tr_law_rare sp_law_draw) good_law_rare (PySem.W.mg_of X G a9) b9
  have n10 : Known l.prog w K mg base 1 "_law_lot" 1 sp_law_lot := known (k := 0) F10 sc_law_lot known_nil hB (tr_law_lot) good_law_lot (PySem.W.mg_of X G a10) b10
  have n11 : Known l.prog w K mg base 2 "_law_cube" 2 sp_law_cube := known (k := 1) F11 sc_law_cube (known_cons (n8.mono (by decide)) known_nil) hB (tr_law_cube sp_law_draw) good_law_cube (PySem.W.mg_of X G a11) b11
  have n12 : Known l.prog w K mg base 1 "_law_bitwise" 4 sp_law_bitwise := known (k := 0) F12 sc_law_bitwise known_nil hB (tr_law_bitwise) good_law_bitwise (PySem.W.mg_of X G a12) b12
  exact def_ok (k := 4) F13 sc_law (known_cons (n7.mono (by decide)) (known_cons (n9.mono (by decide)) (known_cons (n8.mono (by decide)) (known_cons (n11.mono (by decide)) (known_cons (n12.mono (by decide)) (known_cons (n3.mono (by decide)) (known_cons (n4.mono (by decide)) (known_cons (n10.mono (by decide)) (known_cons (n5.mono (by decide)) (known_cons (n6.mono (by decide)) known_nil)))))))))) hB (tr_law sp_law_begin sp_law_rare sp_law_draw sp_law_cube sp_law_bitwise sp_set_header sp_then_set sp_law_lot sp_image sp_origin) good_law
end WW
open PySem PySem.W PyProof.Rows
set_option maxHeartbeats 0 in
theorem PySem.Challenge.cw_wishweather_k02_settings_holds : PySem.Challenge.rw_wishweather_k02_settings.Holds := by
  w_on; o_law; k_head; (case hw => w_witness2)
  k_fill
  refine L2.walk_of (l := PySem.Challenge.rw_wishweather_k02_settings) (n := 63) (k := 5) (x := "script") (CX := fun _ => L2.CX0) (sp := fun w => WW.spOf _ 1 WW.sp_law) rfl (by decide) rfl ⟨rfl, by decide, by decide⟩ (fun w h Y => PySem.W.kIn_of Y) ?F (fun _ _ a ns hl hO hS => WW.law_start hO hS fun S Q q => ⟨ns, rfl, q⟩) (fun _ _ _ _ _ h => h)
  case F =>
    intro w mg fa h KX G hmg
    refine' WW.all_mk KX G hmg ?a0 ?l0 ?c0 ?k0 ?a1 ?l1 ?c1 ?k1 ?a2 ?l2 ?c2 ?k2 ?a3 ?l3 ?c3 ?k3 ?a4 ?l4 ?c4 ?k4 ?a5 ?l5 ?c5 ?k5 ?a6 ?l6 ?c6 ?k6 ?a7 ?l7 ?c7 ?k7 ?a8 ?l8 ?c8 ?k8 ?a9 ?l9 ?c9 ?k9 ?a10 ?l10 ?c10 ?k10 ?a11 ?l11 ?c11 ?k11 ?a12 ?l12 ?c12 ?k12 ?a13 ?l13 ?c13 ?k13 ?z0 ?z1 ?z2 ?z3 ?z4 ?z5
    (case a0 => k_is); (case l0 => k_is); (case c0 => k_is); (case k0 => k_is); (case a1 => k_is); (case l1 => k_is); (case c1 => k_is); (case k1 => k_is); (case a2 => k_is); (case l2 => k_is); (case c2 => k_is); (case k2 => k_is); (case a3 => k_is); (case l3 => k_is); (case c3 => k_is); (case k3 => k_is); (case a4 => k_is); (case l4 => k_is); (case c4 => k_is); (case k4 => k_is); (case a5 => k_is); (case l5 => k_is); (case c5 => k_is); (case k5 => k_is); (case a6 => k_is); (case l6 => k_is); (case c6 => k_is); (case k6 => k_is); (case a7 => k_is); (case l7 => k_is); (case c7 => k_is); (case k7 => k_is); (case a8 => k_is); (case l8 => k_is); (case c8 => k_is); (case k8 => k_is); (case a9 => k_is); (case l9 => k_is); (case c9 => k_is); (case k9 => k_is); (case a10 => k_is); (case l10 => k_is); (case c10 => k_is); (case k10 => k_is); (case a11 => k_is); (case l11 => k_is); (case c11 => k_is); (case k11 => k_is); (case a12 => k_is); (case l12 => k_is); (case c12 => k_is); (case k12 => k_is); (case a13 => k_is); (case l13 => k_is); (case c13 => k_is); (case k13 => k_is); (case z0 => k_is); (case z1 => k_is); (case z2 => k_is); (case z3 => k_is); (case z4 => k_is); (case z5 => k_is)


