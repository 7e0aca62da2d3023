import PyProof.Rows.All
import Wide.All
import OpenK.AllK
import Wide.FinOn
import HandS.ForMost
import HandS.WideBits
import HandS.Wide
import HandS.Flow
import HandS.TupAny
import HandS.Zip
import HandS.Exc
import HandS.ExcOwn
import HandS.TryOnly
import HandS.TryMany
import HandS.ExcSuper
import HandS.ExcInit
import HandS.Deep
import KE.GoesMore
import KE.GoesEnum
import HandS.TupLen
import HandS.Conv
import HandS.IsInst
import HandS.SetFor
import HandS.SortInts
import HandS.Text
import HandS.RaiseMore
import HandS.SortKw
import KE.SortKeyHeap
import HandS.WordsExc
import KE.OsArith
import PySem.Challenge.RW_wishweather_k11_nets
set_option Elab.async false
set_option linter.all false
set_option maxRecDepth 100000
set_option maxHeartbeats 4000000
set_option autoImplicit false
namespace WW
open PySem PySem.Spec PyProof.Rows L2

/-! ### clean data, clean store, clean readings -/
/-- what the machine knows from its start: its constants, where the classes stand -/
structure KF where
  K : PySem.W.Frag
  cl : Str → Addr
inductive D where
  | non | bl (b : Bool) | int (i : Int) | str (s : Str) | tup (xs : List D) | fro (xs : List D) | ref (n : Nat)
/-- what stands in the store: lists; dicts by ints and texts, dicts by tuples of them (true: a loop walks it); instances of a class -/
inductive O where
  | lst (xs : List D)
  | dK (fz : Bool) (kvs : List (Key × D))
  | dT (fz : Bool) (kvs : List (List Key × D))
  | ins (c : Str) (fs : List (Str × D))
abbrev Sto := List O
abbrev Rho := List (Option D)
/-- what is asked of an exception: its class, its fields -/
abbrev XQ := Str → List (Str × D) → Sto → Prop
abbrev XE := Str → List (Str × D) → Rho → Sto → Prop
abbrev Env := XQ × Rho
abbrev Q1 := D → Sto → Prop
abbrev W := Env → Sto → Q1 → Prop
abbrev WA := Env → Sto → (List D → Sto → Prop) → Prop
abbrev WT := Env → Sto → (Bool → Sto → Prop) → Prop
structure KK where
  nx : Rho → Sto → Prop
  rt : Q1
  bk : Rho → Sto → Prop
  ct : Rho → Sto → Prop
  ex : XE
abbrev WS := KK → Rho → Sto → Prop
def KK.en (k : KK) (ρ : Rho) : Env := (fun c fs S => k.ex c fs ρ S, ρ)
abbrev Spec := List D → Sto → Q1 → Prop
abbrev SpecX := List D → Sto → Q1 → XQ → Prop
def noX : XQ := fun _ _ _ => False

def look : Rho → Nat → Option D
  | [], _ => none
  | x :: _, 0 => x
  | _ :: r, n + 1 => look r n
def putR : Rho → Nat → Option D → Rho
  | [], _, _ => []
  | _ :: r, 0, y => y :: r
  | x :: r, n + 1, y => x :: putR r n y
theorem putR_len (r : Rho) (i : Nat) (y : Option D) : (putR r i y).length = r.length := by
  induction r generalizing i with
  | nil => rfl
  | cons x r ih => cases i with
    | zero => rfl
    | succ n => show (putR r n y).length + 1 = r.length + 1; rw [ih]
theorem look_putR (r : Rho) (i j : Nat) (y : Option D) : look (putR r i y) j = if i = j ∧ i < r.length then y else look r j := by
  induction r generalizing i j with
  | nil => simp [putR, look]
  | cons x r ih =>
    cases i with
    | zero => cases j with
      | zero => simp [putR, look]
      | succ m => simp [putR, look]
    | succ n => cases j with
      | zero => simp [putR, look]
      | succ m => simp [putR, look, ih]
theorem look_get (r : Rho) (i : Nat) : look r i = (r[i]?).join := by
  induction r generalizing i with
  | nil => rfl
  | cons x r ih => cases i with
    | zero => rfl
    | succ n => simpa [look] using ih n

/-! ### how the machine's heap bears clean data -/
def SqK (K : KF) (H : Hp) (a : Addr) (xs : List V) : Prop := (∃ o, H a = some (.frz o (.lst xs))) ∨ ∀ H', SqL K.K H' a xs
mutual
def RepV (K : KF) (H : Hp) (ι : List Addr) : D → V → Prop
  | .non, v => v = .non
  | .bl b, v => v = .bl b
  | .int i, v => v = .int i
  | .str s, v => v = .str s
  | .ref n, v => ∃ a, ι[n]? = some a ∧ v = .ref a
  | .tup ds, v => ∃ a xs, v = .ref a ∧ H a = some (.tup xs) ∧ RepVs K H ι ds xs
  | .fro ds, v => ∃ a xs, v = .ref a ∧ SqK K H a xs ∧ RepVs K H ι ds xs
def RepVs (K : KF) (H : Hp) (ι : List Addr) : List D → List V → Prop
  | [], xs => xs = []
  | d :: ds, xs => ∃ x r, xs = x :: r ∧ RepV K H ι d x ∧ RepVs K H ι ds r
end
/-- tables: the same keys, what they hold alike -/
def RepKV {α : Type} (K : KF) (H : Hp) (ι : List Addr) (ds : List (α × D)) (vs : List (α × V)) : Prop := ds.map (·.1) = vs.map (·.1) ∧ RepVs K H ι (ds.map (·.2)) (vs.map (·.2))
def FzIs (fz : Bool) (o u : HO) : Prop := match fz with
  | false => o = u
  | true => ∃ ob, o = .frz ob u
/-- the machine's object bears the clean one -/
def Bear (K : KF) (H : Hp) (ι : List Addr) : O → HO → Prop
  | .lst ds, o => ∃ xs, o = .lst xs ∧ RepVs K H ι ds xs
  | .dK fz ds, o => ∃ xs, FzIs fz o (.dK xs) ∧ RepKV K H ι ds xs
  | .dT fz ds, o => ∃ xs, FzIs fz o (.dT xs) ∧ RepKV K H ι ds xs
  | .ins c fs, o => ∃ dx xs, o = .ins (K.cl c) dx xs ∧ RepKV K H ι fs xs
def MutO : HO → Prop
  | .lst _ => True
  | .dK _ => True
  | .dT _ => True
  | .ins _ _ _ => True
  | .frz _ (.dK _) => True
  | .frz _ (.dT _) => True
  | _ => False
structure RepS (K : KF) (H : Hp) (ι : List Addr) (S : Sto) : Prop where
  len : ι.length = S.length
  nd : ι.Nodup
  ob : ∀ (n : Nat) (a : Addr) (u : O), ι[n]? = some a → S[n]? = some u → ∃ o, H a = some o ∧ Bear K H ι u o
structure RepR (K : KF) (H : Hp) (ι : List Addr) (σ : L2.St) (ρ : Rho) : Prop where
  len : σ.length = ρ.length
  at_ : ∀ (i : Nat) (d : D), look ρ i = some d → ∃ v, σ[i]? = some (some v) ∧ RepV K H ι d v
structure Tr (H : Hp) (ι : List Addr) (H' : Hp) (ι' : List Addr) : Prop where
  ext : ∃ t, ι' = ι ++ t ∧ ∀ a ∈ t, a ∈ ι ∨ H a = none
  keep : ∀ (a : Addr) (o : HO), H a = some o → a ∉ ι → H' a = some o
  frz : ∀ (a : Addr) (ob : Obj) (u : HO), H a = some (.frz ob u) → H' a = some (.frz ob u)
/-- it is not locked -/
def NFz (H : Hp) (a : Addr) : Prop := ∀ ob u, H a ≠ some (.frz ob u)
/-- an exception in the air -/
def XRep (K : KF) (H : Hp) (ι : List Addr) (c : Str) (fs : List (Str × D)) (cls : Value) (d : Option Addr) : Prop :=
  cls = .ref (K.cl c) ∧ ((fs = [] ∧ d = none) ∨ ∃ a xs, d = some a ∧ H a = some (.xd xs) ∧ RepKV K H ι fs xs)
def EnX (K : KF) (H : Hp) (ι : List Addr) (x : XQ) (w : Value → Option Addr → Hp → Prop) : Prop :=
  ∀ c fs S' H' ι' cls d, Tr H ι H' ι' → RepS K H' ι' S' → XRep K H' ι' c fs cls d → x c fs S' → w cls d H'
structure RepE (K : KF) (W : WX) (H : Hp) (ι : List Addr) (σ : L2.St) (e : Env) : Prop where
  r : RepR K H ι σ e.2
  x : EnX K H ι e.1 (fun cls d H' => W cls d σ H')

section
variable {K : KF} {W : WX} {H H1 H2 H' : Hp} {ι ι1 ι2 ι' : List Addr} {S S1 S' : Sto} {σ : L2.St} {ρ : Rho} {e : Env}
theorem Tr.refl (H : Hp) (ι : List Addr) : Tr H ι H ι := ⟨⟨[], by simp, by simp⟩, fun _ _ h _ => h, fun _ _ _ h => h⟩
theorem Tr.trans (a : Tr H ι H1 ι1) (b : Tr H1 ι1 H2 ι2) : Tr H ι H2 ι2 := by
  obtain ⟨t, e, h⟩ := a.ext
  obtain ⟨t1, e1, h1⟩ := b.ext
  have hm : ∀ x, x ∈ ι1 → x ∈ ι ∨ H x = none := fun x hx => by
    rw [e] at hx
    rcases List.mem_append.mp hx with q | q
    · exact .inl q
    · exact h x q
  refine ⟨⟨t ++ t1, by rw [e1, e, List.append_assoc], fun x hx => ?_⟩, fun x o hx hn => ?_, fun x ob u h => b.frz x ob u (a.frz x ob u h)⟩
  · rcases List.mem_append.mp hx with q | q
    · exact h x q
    · rcases h1 x q with q | q
      · exact hm x q
      · by_cases hx : x ∈ ι
        · exact .inl hx
        · right
          cases e2 : H x with
          | none => rfl
          | some o => rw [a.keep x o e2 hx] at q; cases q
  · refine b.keep x o (a.keep x o hx hn) fun hq => ?_
    rcases hm x hq with q | q
    · exact hn q
    · rw [hx] at q; cases q
theorem Tr.get (T : Tr H ι H' ι') {n : Nat} {a : Addr} (h : ι[n]? = some a) : ι'[n]? = some a := by
  obtain ⟨t, e, _⟩ := T.ext
  rw [e, List.getElem?_append_left (List.getElem?_eq_some_iff.mp h).1]
  exact h
theorem FzIs.mut {fz : Bool} {o u : HO} (h : FzIs fz o u) (m : MutO u) (m' : ∀ ob, MutO (.frz ob u)) : MutO o := by
  cases fz with
  | false => cases (show o = u from h); exact m
  | true => obtain ⟨ob, rfl⟩ := h; exact m' ob
theorem Bear.mut {u : O} {o : HO} (h : Bear K H ι u o) : MutO o := by
  cases u with
  | lst ds => obtain ⟨xs, rfl, _⟩ := h; trivial
  | dK fz ds => obtain ⟨xs, h, _⟩ := h; exact h.mut trivial fun _ => trivial
  | dT fz ds => obtain ⟨xs, h, _⟩ := h; exact h.mut trivial fun _ => trivial
  | ins c fs => obtain ⟨dx, xs, rfl, _⟩ := h; trivial
theorem RepS.has (R : RepS K H ι S) {a : Addr} (h : a ∈ ι) : ∃ o, H a = some o ∧ MutO o := by
  obtain ⟨n, hn, e⟩ := List.mem_iff_getElem.mp h
  have hn2 : n < S.length := by rw [← R.len]; exact hn
  obtain ⟨o, e1, b⟩ := R.ob n a S[n] (by rw [List.getElem?_eq_getElem hn, e]) (List.getElem?_eq_getElem hn2)
  exact ⟨o, e1, b.mut⟩
theorem RepS.fresh (R : RepS K H ι S) {p : Addr} (h : H p = none) : p ∉ ι := fun q => by
  obtain ⟨o, e, _⟩ := R.has q
  rw [h] at e; cases e
theorem RepS.not (R : RepS K H ι S) {p : Addr} {o : HO} (h : H p = some o) (m : ¬ MutO o) : p ∉ ι := fun q => by
  obtain ⟨u, e, mu⟩ := R.has q
  rw [h] at e; cases e
  exact m mu
theorem Tr.nmem (T : Tr H ι H' ι') {a : Addr} {o : HO} (h : H a = some o) (hn : a ∉ ι) : a ∉ ι' := fun q => by
  obtain ⟨t, e, ht⟩ := T.ext
  rw [e] at q
  rcases List.mem_append.mp q with q | q
  · exact hn q
  · rcases ht a q with q | q
    · exact hn q
    · rw [h] at q; cases q
theorem tup_tr {a : Addr} {xs : List V} (R : RepS K H ι S) (T : Tr H ι H' ι') (h : H a = some (.tup xs)) : H' a = some (.tup xs) := T.keep a _ h (R.not h id)
theorem SqK.tr {a : Addr} {xs : List V} (R : RepS K H ι S) (T : Tr H ι H' ι') (h : SqK K H a xs) : SqK K H' a xs := by
  rcases h with ⟨o, h⟩ | h
  · exact .inl ⟨o, T.keep a _ h (R.not h id)⟩
  · exact .inr h
theorem SqK.sq {a : Addr} {xs : List V} (h : SqK K H a xs) : SqL K.K H a xs := by
  rcases h with ⟨o, h⟩ | h
  · exact .inl (.inr ⟨o, h⟩)
  · exact h H
section
variable (R : RepS K H ι S) (g : ∀ {n : Nat} {a : Addr}, ι[n]? = some a → ι'[n]? = some a) (kp : ∀ (a : Addr) (o : HO), H a = some o → a ∉ ι → H' a = some o)
include R g kp
mutual
theorem RepV.tr0 : ∀ (d : D) (v : V), RepV K H ι d v → RepV K H' ι' d v
  | .non, _, h => h
  | .bl _, _, h => h
  | .int _, _, h => h
  | .str _, _, h => h
  | .ref n, v, h => by
    obtain ⟨a, h1, h2⟩ := h
    exact ⟨a, g h1, h2⟩
  | .tup ds, v, h => by
    obtain ⟨a, xs, h1, h2, h3⟩ := h
    exact ⟨a, xs, h1, kp a _ h2 (R.not h2 id), RepVs.tr0 ds xs h3⟩
  | .fro ds, v, h => by
    obtain ⟨a, xs, h1, h2, h3⟩ := h
    refine ⟨a, xs, h1, ?_, RepVs.tr0 ds xs h3⟩
    rcases h2 with ⟨o, h⟩ | h
    · exact .inl ⟨o, kp a _ h (R.not h id)⟩
    · exact .inr h
theorem RepVs.tr0 : ∀ (ds : List D) (xs : List V), RepVs K H ι ds xs → RepVs K H' ι' ds xs
  | [], _, h => h
  | d :: ds, xs, h => by
    obtain ⟨x, r, h1, h2, h3⟩ := h
    exact ⟨x, r, h1, RepV.tr0 d x h2, RepVs.tr0 ds r h3⟩
end
end
theorem RepV.tr (R : RepS K H ι S) (T : Tr H ι H' ι') (d : D) (v : V) (h : RepV K H ι d v) : RepV K H' ι' d v := RepV.tr0 R T.get T.keep d v h
theorem RepVs.tr (R : RepS K H ι S) (T : Tr H ι H' ι') (ds : List D) (xs : List V) (h : RepVs K H ι ds xs) : RepVs K H' ι' ds xs := RepVs.tr0 R T.get T.keep ds xs h
theorem RepKV.tr {α : Type} {ds : List (α × D)} {vs : List (α × V)} (R : RepS K H ι S) (T : Tr H ι H' ι') (h : RepKV K H ι ds vs) : RepKV K H' ι' ds vs := ⟨h.1, RepVs.tr R T _ _ h.2⟩
theorem Bear.mv {u : O} {o : HO} (f : ∀ ds xs, RepVs K H ι ds xs → RepVs K H' ι' ds xs) (h : Bear K H ι u o) : Bear K H' ι' u o := by
  cases u with
  | lst ds => obtain ⟨xs, e, r⟩ := h; exact ⟨xs, e, f _ _ r⟩
  | dK fz ds => obtain ⟨xs, e, r⟩ := h; exact ⟨xs, e, r.1, f _ _ r.2⟩
  | dT fz ds => obtain ⟨xs, e, r⟩ := h; exact ⟨xs, e, r.1, f _ _ r.2⟩
  | ins c fs => obtain ⟨dx, xs, e, r⟩ := h; exact ⟨dx, xs, e, r.1, f _ _ r.2⟩
theorem Bear.tr {u : O} {o : HO} (R : RepS K H ι S) (T : Tr H ι H' ι') (h : Bear K H ι u o) : Bear K H' ι' u o := h.mv (RepVs.tr R T)
theorem RepR.tr (R : RepS K H ι S) (T : Tr H ι H' ι') (h : RepR K H ι σ ρ) : RepR K H' ι' σ ρ :=
  ⟨h.len, fun i d e => let ⟨v, a, b⟩ := h.at_ i d e; ⟨v, a, RepV.tr R T d v b⟩⟩
theorem EnX.tr {x : XQ} {w : Value → Option Addr → Hp → Prop} (T : Tr H ι H' ι') (h : EnX K H ι x w) : EnX K H' ι' x w := fun c fs S2 H2 ι2 cls d T2 R2 xr q => h c fs S2 H2 ι2 cls d (T.trans T2) R2 xr q
theorem EnX.no {w : Value → Option Addr → Hp → Prop} : EnX K H ι noX w := fun _ _ _ _ _ _ _ _ _ _ q => q.elim
theorem RepE.tr (R : RepS K H ι S) (T : Tr H ι H' ι') (h : RepE K W H ι σ e) : RepE K W H' ι' σ e := ⟨h.r.tr R T, h.x.tr T⟩
theorem RepVs.length : ∀ {ds : List D} {xs : List V}, RepVs K H ι ds xs → ds.length = xs.length
  | [], _, h => by cases h; rfl
  | _ :: ds, _, h => by
    obtain ⟨x, r, rfl, _, h3⟩ := h
    rw [List.length_cons, List.length_cons, RepVs.length h3]
theorem RepVs.get : ∀ {ds : List D} {xs : List V} {i : Nat} {d : D}, RepVs K H ι ds xs → ds[i]? = some d → ∃ x, xs[i]? = some x ∧ RepV K H ι d x
  | [], _, _, _, _, e => by simp at e
  | d :: ds, _, 0, _, h, e => by
    obtain ⟨x, r, rfl, h2, h3⟩ := h
    simp at e; subst e
    exact ⟨x, rfl, h2⟩
  | _ :: ds, _, i + 1, d, h, e => by
    obtain ⟨x, r, rfl, h2, h3⟩ := h
    obtain ⟨y, e1, e2⟩ := RepVs.get (i := i) (d := d) h3 (by simpa using e)
    exact ⟨y, by simpa using e1, e2⟩
theorem RepVs.getV : ∀ {ds : List D} {xs : List V} {i : Nat} {x : V}, RepVs K H ι ds xs → xs[i]? = some x → ∃ d, ds[i]? = some d ∧ RepV K H ι d x
  | [], _, _, _, h, e => by cases h; simp at e
  | d :: ds, _, 0, _, h, e => by
    obtain ⟨x, r, rfl, h2, h3⟩ := h
    simp at e; subst e
    exact ⟨d, rfl, h2⟩
  | _ :: ds, _, i + 1, x, h, e => by
    obtain ⟨y, r, rfl, h2, h3⟩ := h
    obtain ⟨d, e1, e2⟩ := RepVs.getV (i := i) (x := x) h3 (by simpa using e)
    exact ⟨d, by simpa using e1, e2⟩
theorem RepVs.app : ∀ {ds es : List D} {xs ys : List V}, RepVs K H ι ds xs → RepVs K H ι es ys → RepVs K H ι (ds ++ es) (xs ++ ys)
  | [], _, _, _, h, g => by cases h; exact g
  | d :: ds, _, _, _, h, g => by
    obtain ⟨x, r, rfl, h2, h3⟩ := h
    exact ⟨x, r ++ _, rfl, h2, RepVs.app h3 g⟩
theorem RepVs.one {d : D} {v : V} (h : RepV K H ι d v) : RepVs K H ι [d] [v] := ⟨v, [], rfl, h, rfl⟩
theorem RepVs.take : ∀ {ds : List D} {xs : List V} (n : Nat), RepVs K H ι ds xs → RepVs K H ι (ds.take n) (xs.take n)
  | _, _, 0, _ => by rw [List.take_zero, List.take_zero]; rfl
  | [], _, n + 1, h => by cases h; rfl
  | d :: ds, _, n + 1, h => by
    obtain ⟨x, r, rfl, h2, h3⟩ := h
    exact ⟨x, r.take n, rfl, h2, RepVs.take n h3⟩
theorem RepVs.drop : ∀ {ds : List D} {xs : List V} (n : Nat), RepVs K H ι ds xs → RepVs K H ι (ds.drop n) (xs.drop n)
  | _, _, 0, h => h
  | [], _, n + 1, h => by cases h; rfl
  | d :: ds, _, n + 1, h => by
    obtain ⟨x, r, rfl, h2, h3⟩ := h
    exact RepVs.drop n h3
theorem RepVs.set : ∀ {ds : List D} {xs : List V} {d : D} {v : V} (i : Nat), RepVs K H ι ds xs → RepV K H ι d v → RepVs K H ι (ds.set i d) (xs.set i v)
  | [], _, _, _, _, h, _ => by cases h; rfl
  | _ :: ds, _, _, _, 0, h, g => by
    obtain ⟨x, r, rfl, h2, h3⟩ := h
    exact ⟨_, r, rfl, g, h3⟩
  | _ :: ds, _, _, _, i + 1, h, g => by
    obtain ⟨x, r, rfl, h2, h3⟩ := h
    exact ⟨x, r.set i _, rfl, h2, RepVs.set i h3 g⟩
theorem RepVs.rev : ∀ {ds : List D} {xs : List V}, RepVs K H ι ds xs → RepVs K H ι ds.reverse xs.reverse
  | [], _, h => by cases h; rfl
  | d :: ds, _, h => by
    obtain ⟨x, r, rfl, h2, h3⟩ := h
    rw [List.reverse_cons, List.reverse_cons]
    exact RepVs.app (RepVs.rev h3) (RepVs.one h2)
/-- a new object that the store does not know -/
theorem Tr.new {p : Addr} {o : HO} (R : RepS K H ι S) (h : H p = none) : Tr H ι (upd H p o) ι :=
  ⟨⟨[], by simp, by simp⟩, fun a u e _ => by rw [upd_ne (ne_of_none e h)]; exact e, fun a ob u e => by rw [upd_ne (ne_of_none e h)]; exact e⟩
theorem RepS.new {p : Addr} {o : HO} (R : RepS K H ι S) (h : H p = none) : RepS K (upd H p o) ι S :=
  ⟨R.len, R.nd, fun n a u e1 e2 => by
    obtain ⟨q, e, b⟩ := R.ob n a u e1 e2
    exact ⟨q, by rw [upd_ne (ne_of_none e h)]; exact e, b.tr R (Tr.new R h)⟩⟩
/-- a new object of the store -/
theorem Tr.alloc {p : Addr} {o : HO} (R : RepS K H ι S) (h : H p = none) : Tr H ι (upd H p o) (ι ++ [p]) :=
  ⟨⟨[p], rfl, fun a ha => by
    rw [List.mem_singleton] at ha
    subst ha
    exact .inr h⟩, fun a u e _ => by rw [upd_ne (ne_of_none e h)]; exact e, fun a ob u e => by rw [upd_ne (ne_of_none e h)]; exact e⟩
theorem RepS.allocO {p : Addr} {o : HO} {u : O} (R : RepS K H ι S) (h : H p = none) (r : Bear K H ι u o) : RepS K (upd H p o) (ι ++ [p]) (S ++ [u]) := by
  have T : Tr H ι (upd H p o) (ι ++ [p]) := Tr.alloc R h
  refine ⟨by simp [R.len], ?_, fun n a v e1 e2 => ?_⟩
  · rw [List.nodup_append]
    refine ⟨R.nd, by simp, fun a ha b hb => ?_⟩
    rw [List.mem_singleton] at hb
    subst hb
    intro e
    subst e
    exact R.fresh h ha
  · by_cases hn : n < ι.length
    · rw [List.getElem?_append_left hn] at e1
      rw [List.getElem?_append_left (by rw [← R.len]; exact hn)] at e2
      obtain ⟨q, e, b⟩ := R.ob n a v e1 e2
      exact ⟨q, by rw [upd_ne (ne_of_none e h)]; exact e, b.tr R T⟩
    · rw [List.getElem?_append_right (Nat.le_of_not_lt hn)] at e1
      rw [List.getElem?_append_right (by rw [← R.len]; exact Nat.le_of_not_lt hn), ← R.len] at e2
      cases hk : n - ι.length with
      | zero =>
        rw [hk] at e1 e2
        simp at e1 e2
        subst e1
        subst e2
        exact ⟨o, upd_same, r.tr R T⟩
      | succ k =>
        rw [hk] at e1
        simp at e1
theorem RepS.alloc {p : Addr} {xs : List V} {ds : List D} (R : RepS K H ι S) (h : H p = none) (r : RepVs K H ι ds xs) : RepS K (upd H p (.lst xs)) (ι ++ [p]) (S ++ [.lst ds]) := R.allocO h ⟨xs, rfl, r⟩
theorem RepV.newO {p : Addr} (R : RepS K H ι S) (H' : Hp) : RepV K H' (ι ++ [p]) (.ref S.length) (.ref p) :=
  ⟨p, by rw [← R.len]; simp, rfl⟩
theorem RepV.new {p : Addr} {xs : List V} (R : RepS K H ι S) : RepV K (upd H p (.lst xs)) (ι ++ [p]) (.ref S.length) (.ref p) := RepV.newO R _
/-- an object of the store changed -/
theorem nfz {a : Addr} {o : HO} (h : H a = some o) (m : ∀ ob u, o ≠ .frz ob u := by intro ob u z; cases z) : NFz H a := fun ob u e => by
  rw [h] at e
  exact m ob u (Option.some.inj e)
theorem Tr.write {n : Nat} {a : Addr} {o : HO} (R : RepS K H ι S) (h : ι[n]? = some a) (hz : NFz H a) : Tr H ι (upd H a o) ι :=
  ⟨⟨[], by simp, by simp⟩, fun b u e hn => by
    rw [upd_ne (fun z => hn (by subst z; exact List.mem_of_getElem? h))]
    exact e, fun b ob u e => by rw [upd_ne (fun z => by subst z; exact hz ob u e)]; exact e⟩
theorem RepS.same (R : RepS K H ι S) {n m : Nat} {a : Addr} (h1 : ι[n]? = some a) (h2 : ι[m]? = some a) : n = m := by
  obtain ⟨h3, e3⟩ := List.getElem?_eq_some_iff.mp h1
  obtain ⟨h4, e4⟩ := List.getElem?_eq_some_iff.mp h2
  exact (List.getElem_inj R.nd).mp (e3.trans e4.symm)
theorem RepS.writeO {n : Nat} {a : Addr} {o : HO} {u : O} (R : RepS K H ι S) (h : ι[n]? = some a) (r : Bear K H ι u o) : RepS K (upd H a o) ι (S.set n u) := by
  have T : ∀ ds xs, RepVs K H ι ds xs → RepVs K (upd H a o) ι ds xs := RepVs.tr0 R id fun b u e hn => by
    rw [upd_ne (fun z => hn (by subst z; exact List.mem_of_getElem? h))]
    exact e
  refine ⟨by simp [R.len], R.nd, fun m b v e1 e2 => ?_⟩
  by_cases hm : n = m
  · subst hm
    rw [h] at e1
    cases e1
    rw [List.getElem?_set_self (by
      rw [← R.len]
      exact (List.getElem?_eq_some_iff.mp h).1)] at e2
    cases e2
    exact ⟨o, upd_same, r.mv T⟩
  · rw [List.getElem?_set_ne hm] at e2
    obtain ⟨q, e, b'⟩ := R.ob m b v e1 e2
    have hb : b ≠ a := fun z => by
      subst z
      exact hm (R.same h e1)
    exact ⟨q, by rw [upd_ne hb]; exact e, b'.mv T⟩
theorem RepS.write {n : Nat} {a : Addr} {xs : List V} {ds : List D} (R : RepS K H ι S) (h : ι[n]? = some a) (r : RepVs K H ι ds xs) : RepS K (upd H a (.lst xs)) ι (S.set n (.lst ds)) := R.writeO h ⟨xs, rfl, r⟩
theorem RepS.obj {n : Nat} {v : V} {u : O} (R : RepS K H ι S) (h : RepV K H ι (.ref n) v) (e : S[n]? = some u) : ∃ a o, v = .ref a ∧ ι[n]? = some a ∧ H a = some o ∧ Bear K H ι u o := by
  obtain ⟨a, e1, e2⟩ := h
  obtain ⟨o, q1, q2⟩ := R.ob n a _ e1 e
  exact ⟨a, o, e2, e1, q1, q2⟩
theorem RepS.list {n : Nat} {v : V} {ds : List D} (R : RepS K H ι S) (h : RepV K H ι (.ref n) v) (e : S[n]? = some (.lst ds)) : ∃ a xs, v = .ref a ∧ ι[n]? = some a ∧ H a = some (.lst xs) ∧ RepVs K H ι ds xs := by
  obtain ⟨a, o, h1, h2, h3, xs, rfl, r⟩ := R.obj h e
  exact ⟨a, xs, h1, h2, h3, r⟩
theorem RepS.inst {n : Nat} {v : V} {c : Str} {fs : List (Str × D)} (R : RepS K H ι S) (h : RepV K H ι (.ref n) v) (e : S[n]? = some (.ins c fs)) : ∃ a dx xs, v = .ref a ∧ ι[n]? = some a ∧ H a = some (.ins (K.cl c) dx xs) ∧ RepKV K H ι fs xs := by
  obtain ⟨a, o, h1, h2, h3, dx, xs, rfl, r⟩ := R.obj h e
  exact ⟨a, dx, xs, h1, h2, h3, r⟩
theorem RepR.put {i : Nat} {d : D} {v : V} (h : RepR K H ι σ ρ) (r : RepV K H ι d v) : RepR K H ι (σ.set i (some v)) (putR ρ i (some d)) := by
  refine ⟨by rw [List.length_set, putR_len]; exact h.len, fun j e hj => ?_⟩
  rw [look_putR] at hj
  split at hj
  · rename_i c
    cases hj
    obtain ⟨c1, c2⟩ := c
    subst c1
    exact ⟨v, List.getElem?_set_self (by rw [h.len]; exact c2), r⟩
  · rename_i c
    obtain ⟨u, e1, e2⟩ := h.at_ j e hj
    by_cases hij : i = j
    · subst hij
      have : i < σ.length := (List.getElem?_eq_some_iff.mp e1).1
      exact absurd ⟨rfl, by rw [← h.len]; exact this⟩ c
    · exact ⟨u, by rw [List.getElem?_set_ne hij]; exact e1, e2⟩
theorem RepR.wipe1 {i : Nat} (h : RepR K H ι σ ρ) : RepR K H ι (σ.set i none) (putR ρ i none) := by
  refine ⟨by rw [List.length_set, putR_len]; exact h.len, fun j e hj => ?_⟩
  rw [look_putR] at hj
  split at hj
  · cases hj
  · rename_i c
    obtain ⟨u, e1, e2⟩ := h.at_ j e hj
    by_cases hij : i = j
    · subst hij
      have : i < σ.length := (List.getElem?_eq_some_iff.mp e1).1
      exact absurd ⟨rfl, by rw [← h.len]; exact this⟩ c
    · exact ⟨u, by rw [List.getElem?_set_ne hij]; exact e1, e2⟩
def wipeR (ρ : Rho) : List Nat → Rho
  | [] => ρ
  | v :: vs => putR (wipeR ρ vs) v none
theorem RepR.wipe (h : RepR K H ι σ ρ) : ∀ vs : List Nat, RepR K H ι (L2.wipe σ vs) (wipeR ρ vs)
  | [] => h
  | v :: vs => (RepR.wipe h vs).wipe1
theorem RepR.start : ∀ {ds : List D} {vs : List V}, RepVs K H ι ds vs → ∀ n, RepR K H ι (vs.map some ++ List.replicate n none) (ds.map some ++ List.replicate n none) := fun {ds vs} h n => by
  refine ⟨by simp [h.length], fun i d hi => ?_⟩
  rw [look_get] at hi
  by_cases hl : i < ds.length
  · rw [List.getElem?_append_left (by simpa using hl)] at hi
    have e1 : ds[i]? = some d := by
      rw [List.getElem?_map] at hi
      cases q : ds[i]? with
      | none => rw [q] at hi; simp at hi
      | some z => rw [q] at hi; simpa using hi
    obtain ⟨x, e2, r⟩ := h.get e1
    refine ⟨x, ?_, r⟩
    rw [List.getElem?_append_left (by rw [List.length_map]; exact (List.getElem?_eq_some_iff.mp e2).1), List.getElem?_map, e2]
    rfl
  · rw [List.getElem?_append_right (by simpa using hl), List.getElem?_replicate] at hi
    split at hi <;> simp at hi
end

/-! ### tables -/
section
variable {κ : Type} [DecidableEq κ] {α : Type}
def getA (kvs : List (κ × α)) (k : κ) : Option α := (kvs.find? fun kv => decide (kv.1 = k)).map (·.2)
def putA (kvs : List (κ × α)) (k : κ) (v : α) : List (κ × α) :=
  if (kvs.any fun kv => decide (kv.1 = k)) = true then kvs.map (fun kv => if kv.1 = k then (kv.1, v) else kv) else kvs ++ [(k, v)]
def dropA (kvs : List (κ × α)) (k : κ) : List (κ × α) := kvs.filter fun kv => decide (kv.1 ≠ k)
end
section
variable {K : KF} {H : Hp} {ι : List Addr} {κ : Type} [DecidableEq κ] {ds : List (κ × D)} {vs : List (κ × V)}
theorem RepKV.nil : RepKV K H ι ([] : List (κ × D)) [] := ⟨rfl, rfl⟩
theorem RepKV.cases_nil {vs : List (κ × V)} (h : RepKV K H ι ([] : List (κ × D)) vs) : vs = [] := by
  have := h.1
  cases vs with
  | nil => rfl
  | cons _ _ => cases this
theorem RepKV.uncons {p : κ × D} {r : List (κ × D)} {vs : List (κ × V)} (h : RepKV K H ι (p :: r) vs) : ∃ v s, vs = (p.1, v) :: s ∧ RepV K H ι p.2 v ∧ RepKV K H ι r s := by
  obtain ⟨h1, h2⟩ := h
  cases vs with
  | nil => cases h1
  | cons q s =>
    rw [List.map_cons, List.map_cons] at h1
    injection h1 with h1 h3
    obtain ⟨x, t, e, r1, r2⟩ := h2
    rw [List.map_cons] at e
    injection e with e1 e2
    subst e1
    subst e2
    refine ⟨q.2, s, ?_, r1, h3, r2⟩
    rw [h1]
theorem RepKV.cons {k : κ} {d : D} {v : V} (r : RepV K H ι d v) (h : RepKV K H ι ds vs) : RepKV K H ι ((k, d) :: ds) ((k, v) :: vs) :=
  ⟨by rw [List.map_cons, List.map_cons, h.1], v, _, rfl, r, h.2⟩
theorem RepKV.app {es : List (κ × D)} {ws : List (κ × V)} (h : RepKV K H ι ds vs) (g : RepKV K H ι es ws) : RepKV K H ι (ds ++ es) (vs ++ ws) :=
  ⟨by rw [List.map_append, List.map_append, h.1, g.1], by rw [List.map_append, List.map_append]; exact RepVs.app h.2 g.2⟩
theorem RepKV.length (h : RepKV K H ι ds vs) : ds.length = vs.length := by
  have := congrArg List.length h.1
  rwa [List.length_map, List.length_map] at this
theorem RepKV.any {k : κ} : ∀ {ds : List (κ × D)} {vs : List (κ × V)}, RepKV K H ι ds vs → (ds.any fun kv => decide (kv.1 = k)) = vs.any fun kv => decide (kv.1 = k)
  | [], _, h => by rw [h.cases_nil]; rfl
  | p :: r, _, h => by
    obtain ⟨v, s, rfl, _, h2⟩ := h.uncons
    rw [List.any_cons, List.any_cons, RepKV.any h2]
theorem RepKV.get {k : κ} : ∀ {ds : List (κ × D)} {vs : List (κ × V)}, RepKV K H ι ds vs → (getA ds k = none ∧ valV vs k = none) ∨ ∃ d v, getA ds k = some d ∧ valV vs k = some v ∧ RepV K H ι d v
  | [], _, h => by rw [h.cases_nil]; exact .inl ⟨rfl, rfl⟩
  | p :: r, _, h => by
    obtain ⟨v, s, rfl, h1, h2⟩ := h.uncons
    by_cases e : p.1 = k
    · right
      refine ⟨p.2, v, ?_, valV_pos e, h1⟩
      unfold getA
      rw [List.find?_cons]
      simp [e]
    · rw [valV_neg (p := (p.1, v)) e]
      have e2 : getA (p :: r) k = getA r k := by
        unfold getA
        rw [List.find?_cons]
        simp [e]
      rw [e2]
      exact RepKV.get h2
theorem RepKV.repl {k : κ} {d : D} {v : V} (r : RepV K H ι d v) : ∀ {ds : List (κ × D)} {vs : List (κ × V)}, RepKV K H ι ds vs → RepKV K H ι (ds.map fun kv => if kv.1 = k then (kv.1, d) else kv) (vs.map fun kv => if kv.1 = k then (kv.1, v) else kv)
  | [], _, h => by rw [h.cases_nil]; exact RepKV.nil
  | p :: q, _, h => by
    obtain ⟨u, s, rfl, h1, h2⟩ := h.uncons
    rw [List.map_cons, List.map_cons]
    by_cases e : p.1 = k
    · rw [if_pos e, if_pos (show (p.1, u).1 = k from e)]
      exact RepKV.cons r (RepKV.repl r h2)
    · rw [if_neg e, if_neg (show ¬ (p.1, u).1 = k from e)]
      exact RepKV.cons h1 (RepKV.repl r h2)
theorem RepKV.put {k : κ} {d : D} {v : V} (h : RepKV K H ι ds vs) (r : RepV K H ι d v) : RepKV K H ι (putA ds k d) (putK vs k v) := by
  unfold putA putK
  rw [h.any]
  split
  · exact RepKV.repl r h
  · exact h.app (RepKV.cons r RepKV.nil)
theorem RepKV.drop {k : κ} : ∀ {ds : List (κ × D)} {vs : List (κ × V)}, RepKV K H ι ds vs → RepKV K H ι (dropA ds k) (dropK vs k)
  | [], _, h => by rw [h.cases_nil]; exact RepKV.nil
  | p :: q, _, h => by
    obtain ⟨u, s, rfl, h1, h2⟩ := h.uncons
    unfold dropA dropK
    rw [List.filter_cons, List.filter_cons]
    have ih := RepKV.drop (k := k) h2
    unfold dropA dropK at ih
    by_cases e : p.1 = k
    · simp only [e, ne_eq, not_true_eq_false, decide_false, Bool.false_eq_true, if_false]
      exact ih
    · simp only [e, ne_eq, not_false_eq_true, decide_true, if_true]
      exact RepKV.cons h1 ih
theorem RepKV.look {k : Str} : ∀ {ds : List (Str × D)} {vs : List (Str × V)}, RepKV K H ι ds vs → (ds.lookup k = none ∧ vs.lookup k = none) ∨ ∃ d v, ds.lookup k = some d ∧ vs.lookup k = some v ∧ RepV K H ι d v
  | [], _, h => by rw [h.cases_nil]; exact .inl ⟨rfl, rfl⟩
  | p :: r, _, h => by
    obtain ⟨v, s, rfl, h1, h2⟩ := h.uncons
    obtain ⟨a, d⟩ := p
    rw [List.lookup_cons, List.lookup_cons]
    cases (k == (a, d).1) with
    | true => exact .inr ⟨_, _, rfl, rfl, h1⟩
    | false => exact RepKV.look h2
end
end WW


set_option Elab.async false
set_option linter.all false
set_option maxRecDepth 100000
set_option maxHeartbeats 4000000
set_option autoImplicit false
namespace WW
open PySem PySem.Spec PyProof.Rows L2

/-! ### values: operators, comparisons, truth, subscripts, calls -/
/-! data of any depth, read through the store -/
mutual
inductive DpD (S : Sto) : D → PyData → Prop
  | non : DpD S .non .none
  | bl (b : Bool) : DpD S (.bl b) (.bool b)
  | int (i : Int) : DpD S (.int i) (.int i)
  | str (x : Str) : DpD S (.str x) (.str x)
  | lst {n : Nat} {xs : List D} {ds : List PyData} : S[n]? = some (.lst xs) → DpAllD S xs ds → DpD S (.ref n) (.list ds)
  | fro {xs : List D} {ds : List PyData} : DpAllD S xs ds → DpD S (.fro xs) (.list ds)
  | tup {xs : List D} {ds : List PyData} : DpAllD S xs ds → DpD S (.tup xs) (.tuple ds)
inductive DpAllD (S : Sto) : List D → List PyData → Prop
  | nil : DpAllD S [] []
  | cons {v : D} {vs : List D} {d : PyData} {ds : List PyData} : DpD S v d → DpAllD S vs ds → DpAllD S (v :: vs) (d :: ds)
end
section
variable {K : KF} {H : Hp} {ι : List Addr} {S : Sto}
mutual
theorem DpD.dp (R : RepS K H ι S) : ∀ (p : PyData) (d : D) (v : V), DpD S d p → RepV K H ι d v → Dp K.K H v p
  | .none, _, _, h, r => by cases h; cases r; exact .non
  | .bool b, _, _, h, r => by cases h; cases r; exact .bl b
  | .int i, _, _, h, r => by cases h; cases r; exact .int i
  | .str x, _, _, h, r => by cases h; cases r; exact .str x
  | .list ps, _, _, h, r => by
    cases h with
    | lst e ha =>
      obtain ⟨a, xs, rfl, _, q1, q2⟩ := R.list r e
      exact .lst (.inl (.inl q1)) (DpAllD.dp R ps _ xs ha q2)
    | fro ha =>
      obtain ⟨a, xs, rfl, q1, q2⟩ := r
      exact .lst q1.sq (DpAllD.dp R ps _ xs ha q2)
  | .tuple ps, _, _, h, r => by
    cases h with
    | tup ha =>
      obtain ⟨a, xs, rfl, q1, q2⟩ := r
      exact .tup (.inl (.inl q1)) (DpAllD.dp R ps _ xs ha q2)
  | .dict _, _, _, h, _ => by cases h
theorem DpAllD.dp (R : RepS K H ι S) : ∀ (ps : List PyData) (ds : List D) (xs : List V), DpAllD S ds ps → RepVs K H ι ds xs → DpAll K.K H xs ps
  | [], _, _, h, r => by cases h; cases r; exact .nil
  | p :: ps, _, _, h, r => by
    cases h with
    | cons h1 h2 =>
      obtain ⟨x, t, rfl, r1, r2⟩ := r
      exact .cons (DpD.dp R p _ x h1 r1) (DpAllD.dp R ps _ t h2 r2)
end
end

/-- where a class stands, by the module's names -/
def clOf (mg : Str → Option Value) (x : Str) : Addr := match mg x with
  | some (.ref C) => C
  | _ => 0
def kf (X : Cx) : KF := ⟨X.K, clOf X.mg⟩
/-- what a value-level operation hands back -/
def Ok1 (K : KF) (H : Hp) (ι : List Addr) (Q : Q1) (QV : VK) : Prop := ∀ d S', Q d S' → ∀ v H' ι', Tr H ι H' ι' → RepS K H' ι' S' → RepV K H' ι' d v → QV v H'
section
variable {K : KF} {H : Hp} {ι : List Addr} {S : Sto} {Q : Q1} {QV : VK}
theorem Ok1.here (h : Ok1 K H ι Q QV) (R : RepS K H ι S) {d : D} {v : V} (r : RepV K H ι d v) (q : Q d S) : QV v H := h d S q v H ι (Tr.refl _ _) R r
theorem Ok1.newL (h : Ok1 K H ι Q QV) (R : RepS K H ι S) {ds : List D} {xs : List V} (r : RepVs K H ι ds xs) (q : Q (.ref S.length) (S ++ [.lst ds])) : ∀ p, H p = none → QV (.ref p) (upd H p (.lst xs)) := fun p hp =>
  h _ _ q _ _ _ (Tr.alloc R hp) (RepS.alloc R hp r) (RepV.new R)
theorem Ok1.newT (h : Ok1 K H ι Q QV) (R : RepS K H ι S) {ds : List D} {xs : List V} (r : RepVs K H ι ds xs) (q : Q (.tup ds) S) : ∀ p, H p = none → QV (.ref p) (upd H p (.tup xs)) := fun p hp =>
  h _ _ q _ _ _ (Tr.new R hp) (RepS.new R hp) ⟨p, xs, rfl, upd_same, RepVs.tr R (Tr.new R hp) _ _ r⟩
end
abbrev OpD := D → D → Sto → Q1 → Prop
structure OpS (X : Cx) (f : Value → Value → Sem Value) (o : OpD) : Prop where
  mono : ∀ x y S (Q Q' : Q1), (∀ d S', Q d S' → Q' d S') → o x y S Q → o x y S Q'
  rd : ∃ r : R2, OpR X f r ∧ ∀ x y S Q vx vy H ι QV, RepS (kf X) H ι S → RepV (kf X) H ι x vx → RepV (kf X) H ι y vy → o x y S Q → Ok1 (kf X) H ι Q QV → r vx vy H QV

def opAdd : OpD
  | .int i, .int j, S, Q => Q (.int (i + j)) S
  | .str s, .str t, S, Q => s.length + t.length ≤ sizeLine ∧ Q (.str (s ++ t)) S
  | .tup xs, .tup ys, S, Q => xs.length + ys.length ≤ sizeLine ∧ Q (.tup (xs ++ ys)) S
  | .ref m, .ref n, S, Q => ∃ xs ys, S[m]? = some (.lst xs) ∧ S[n]? = some (.lst ys) ∧ xs.length + ys.length ≤ sizeLine ∧ Q (.ref S.length) (S ++ [.lst (xs ++ ys)])
  | _, _, _, _ => False
def opSub : OpD
  | .int i, .int j, S, Q => Q (.int (i - j)) S
  | _, _, _, _ => False
def opMul : OpD
  | .int i, .int j, S, Q => (CMul i j ∨ CMulW i j) ∧ Q (.int (i * j)) S
  | _, _, _, _ => False
def opDiv : OpD
  | .int i, .int j, S, Q => CDivW i j ∧ Q (.int (i / j)) S
  | _, _, _, _ => False
def opMod : OpD
  | .int i, .int j, S, Q => 0 < j ∧ Q (.int (i % j)) S
  | _, _, _, _ => False
def opPow : OpD
  | .int i, .int j, S, Q => CPow i j ∧ Q (.int (i ^ j.toNat)) S
  | _, _, _, _ => False
def opShl : OpD
  | .int i, .int j, S, Q => CShl i j ∧ Q (.int (i * 2 ^ j.toNat)) S
  | _, _, _, _ => False
def opShr : OpD
  | .int i, .int j, S, Q => 0 ≤ j ∧ Q (.int (i / 2 ^ j.toNat)) S
  | _, _, _, _ => False
def opAnd : OpD
  | .int i, .int j, S, Q => Q (.int (Builtin.bitAnd i j)) S
  | _, _, _, _ => False
def opOr : OpD
  | .int i, .int j, S, Q => Q (.int (Builtin.bitOr i j)) S
  | _, _, _, _ => False
def opXor : OpD
  | .int i, .int j, S, Q => Q (.int (Builtin.bitXor i j)) S
  | _, _, _, _ => False
def opD : Operator → OpD
  | .Add => opAdd
  | .Sub => opSub
  | .Mult => opMul
  | .FloorDiv => opDiv
  | .Mod => opMod
  | .Pow => opPow
  | .LShift => opShl
  | .RShift => opShr
  | .BitAnd => opAnd
  | .BitOr => opOr
  | .BitXor => opXor
  | _ => fun _ _ _ _ => False
section
variable {X : Cx}
theorem opS_int {f : Value → Value → Sem Value} {C : Int → Int → Prop} {g : Int → Int → Int} {o : OpD} (hr : OpR X f (rI C fun i j => .int (g i j)))
    (e : ∀ i j S Q, o (.int i) (.int j) S Q = (C i j ∧ Q (.int (g i j)) S)) (n : ∀ x y S Q, o x y S Q → ∃ i j, x = .int i ∧ y = .int j) : OpS X f o where
  mono := fun x y S Q Q' h q => by
    obtain ⟨i, j, rfl, rfl⟩ := n x y S Q q
    rw [e] at q ⊢
    exact ⟨q.1, h _ _ q.2⟩
  rd := ⟨_, hr, fun x y S Q vx vy H ι QV R rx ry q k => by
    obtain ⟨i, j, rfl, rfl⟩ := n x y S Q q
    rw [e] at q
    cases rx
    cases ry
    exact ⟨i, j, rfl, rfl, q.1, k.here R (d := .int _) rfl q.2⟩⟩
theorem opS_int0 {f : Value → Value → Sem Value} {g : Int → Int → Int} {o : OpD} (hr : OpR X f (rI0 fun i j => .int (g i j)))
    (e : ∀ i j S Q, o (.int i) (.int j) S Q = Q (.int (g i j)) S) (n : ∀ x y S Q, o x y S Q → ∃ i j, x = .int i ∧ y = .int j) : OpS X f o where
  mono := fun x y S Q Q' h q => by
    obtain ⟨i, j, rfl, rfl⟩ := n x y S Q q
    rw [e] at q ⊢
    exact h _ _ q
  rd := ⟨_, hr, fun x y S Q vx vy H ι QV R rx ry q k => by
    obtain ⟨i, j, rfl, rfl⟩ := n x y S Q q
    rw [e] at q
    cases rx
    cases ry
    exact ⟨i, j, rfl, rfl, k.here R (d := .int _) rfl q⟩⟩
theorem OpR.weak {f : Value → Value → Sem Value} {r r' : R2} (h : OpR X f r) (w : ∀ x y H Q, r' x y H Q → r x y H Q) : OpR X f r' := fun pins s σ H x y v u Q I rx ry q => h pins s σ H x y v u Q I rx ry (w _ _ _ _ q)
theorem opMul_r : OpR X (binaryOp .Mult) (rI (fun i j => CMul i j ∨ CMulW i j) fun i j => .int (i * j)) := OpR.weak (op_mul.or op_mulW) fun x y H Q ⟨i, j, e1, e2, c, q⟩ => by
  rcases c with c | c
  · exact .inl ⟨i, j, e1, e2, c, q⟩
  · exact .inr ⟨i, j, e1, e2, c, q⟩
theorem opAdd_S : OpS X (binaryOp .Add) opAdd where
  mono := fun x y S Q Q' h q => by
    cases x <;> cases y <;> try exact q
    · exact h _ _ q
    · exact ⟨q.1, h _ _ q.2⟩
    · exact ⟨q.1, h _ _ q.2⟩
    · obtain ⟨xs, ys, h1, h2, h3, h4⟩ := q
      exact ⟨xs, ys, h1, h2, h3, h _ _ h4⟩
  rd := ⟨_, op_add.or (op_add_str.or (op_catA.or op_cat)), fun x y S Q vx vy H ι QV R rx ry q k => by
    cases x <;> cases y <;> try exact q.elim
    · cases rx
      cases ry
      exact .inl ⟨_, _, rfl, rfl, k.here R (d := .int _) rfl q⟩
    · cases rx
      cases ry
      exact .inr (.inl ⟨_, _, rfl, rfl, q.1, k.here R (d := .str _) rfl q.2⟩)
    · rename_i ds es
      obtain ⟨a, xs, rfl, hx, qx⟩ := rx
      obtain ⟨b, ys, rfl, hy, qy⟩ := ry
      refine .inr (.inr (.inl ⟨a, b, xs, ys, rfl, rfl, .inl (.inl hx), .inl (.inl hy), ?_, fun e => ?_, fun _ e => ?_, fun _ _ => ?_⟩))
      · rw [← qx.length, ← qy.length]; exact q.1
      · subst e
        have e1 : ds = [] := List.eq_nil_of_length_eq_zero (by rw [qx.length]; rfl)
        subst e1
        exact k.here R (d := .tup es) ⟨b, ys, rfl, hy, qy⟩ q.2
      · subst e
        have e1 : es = [] := List.eq_nil_of_length_eq_zero (by rw [qy.length]; rfl)
        subst e1
        have q2 := q.2
        rw [List.append_nil] at q2
        exact k.here R (d := .tup ds) ⟨a, xs, rfl, hx, qx⟩ q2
      · exact k.newT R (RepVs.app qx qy) q.2
    · obtain ⟨xs, ys, h1, h2, h3, h4⟩ := q
      obtain ⟨a, vs, rfl, _, e1, r1⟩ := R.list rx h1
      obtain ⟨b, ws, rfl, _, e2, r2⟩ := R.list ry h2
      exact .inr (.inr (.inr ⟨a, b, vs, ws, rfl, rfl, e1, e2, by rw [← r1.length, ← r2.length]; exact h3, k.newL R (RepVs.app r1 r2) h4⟩))⟩
theorem op_none {f : Value → Value → Sem Value} : OpR X f (fun _ _ _ _ => False) := fun _ _ _ _ _ _ _ _ _ _ _ _ q => q.elim
theorem opD_S : ∀ op : Operator, OpS X (binaryOp op) (opD op)
  | .Add => opAdd_S
  | .Sub => opS_int0 op_sub (fun _ _ _ _ => rfl) fun x y S Q q => by cases x <;> cases y <;> first | exact ⟨_, _, rfl, rfl⟩ | exact q.elim
  | .Mult => opS_int opMul_r (fun _ _ _ _ => rfl) fun x y S Q q => by cases x <;> cases y <;> first | exact ⟨_, _, rfl, rfl⟩ | exact q.elim
  | .FloorDiv => opS_int op_fdivW (fun _ _ _ _ => rfl) fun x y S Q q => by cases x <;> cases y <;> first | exact ⟨_, _, rfl, rfl⟩ | exact q.elim
  | .Mod => opS_int op_mod (fun _ _ _ _ => rfl) fun x y S Q q => by cases x <;> cases y <;> first | exact ⟨_, _, rfl, rfl⟩ | exact q.elim
  | .Pow => opS_int op_pow (fun _ _ _ _ => rfl) fun x y S Q q => by cases x <;> cases y <;> first | exact ⟨_, _, rfl, rfl⟩ | exact q.elim
  | .LShift => opS_int op_shlW (fun _ _ _ _ => rfl) fun x y S Q q => by cases x <;> cases y <;> first | exact ⟨_, _, rfl, rfl⟩ | exact q.elim
  | .RShift => opS_int op_shr (fun _ _ _ _ => rfl) fun x y S Q q => by cases x <;> cases y <;> first | exact ⟨_, _, rfl, rfl⟩ | exact q.elim
  | .BitAnd => opS_int0 op_and (fun _ _ _ _ => rfl) fun x y S Q q => by cases x <;> cases y <;> first | exact ⟨_, _, rfl, rfl⟩ | exact q.elim
  | .BitOr => opS_int0 op_or (fun _ _ _ _ => rfl) fun x y S Q q => by cases x <;> cases y <;> first | exact ⟨_, _, rfl, rfl⟩ | exact q.elim
  | .BitXor => opS_int0 op_xor (fun _ _ _ _ => rfl) fun x y S Q q => by cases x <;> cases y <;> first | exact ⟨_, _, rfl, rfl⟩ | exact q.elim
  | .Div => ⟨fun _ _ _ _ _ _ q => q.elim, _, op_none, fun _ _ _ _ _ _ _ _ _ _ _ _ q => q.elim⟩
  | .MatMult => ⟨fun _ _ _ _ _ _ q => q.elim, _, op_none, fun _ _ _ _ _ _ _ _ _ _ _ _ q => q.elim⟩
end
end WW


set_option Elab.async false
set_option linter.all false
set_option maxRecDepth 100000
set_option maxHeartbeats 4000000
set_option autoImplicit false
namespace WW
open PySem PySem.Spec PyProof.Rows L2

def sg : Bool → Bool → Bool
  | false, b => b
  | true, b => !b
def scalD : D → D → Option Bool
  | .non, .non => some true
  | .int i, .int j => some (decide (i = j))
  | .bl i, .bl j => some (decide (i = j))
  | .str i, .str j => some (decide (i = j))
  | .non, .int _ => some false
  | .int _, .non => some false
  | .non, .bl _ => some false
  | .bl _, .non => some false
  | .non, .str _ => some false
  | .str _, .non => some false
  | .int _, .str _ => some false
  | .str _, .int _ => some false
  | _, _ => none
def cmpEq (neg : Bool) : OpD := fun x y S Q => match scalD x y with
  | some b => Q (.bl (sg neg b)) S
  | none => ∃ p q, DpD S x p ∧ DpD S y q ∧ SeqAt.shaped p = true ∧ SeqAt.shaped q = true ∧ Q (.bl (sg neg (PyData.eqv p q))) S
def cmpII (f : Int → Int → Bool) : OpD
  | .int i, .int j, S, Q => Q (.bl (f i j)) S
  | _, _, _, _ => False
def flatD : D → Bool
  | .non => true
  | .bl _ => true
  | .int _ => true
  | .str _ => true
  | _ => false
def eqF : D → D → Bool
  | .non, .non => true
  | .bl a, .bl b => a == b
  | .bl a, .int b => (if a then 1 else 0) == b
  | .int a, .bl b => a == (if b then 1 else 0)
  | .int a, .int b => a == b
  | .str a, .str b => a == b
  | _, _ => false
def inF (x : D) (xs : List D) : Bool := xs.any fun y => eqF y x
/-- keys of dicts: ints and texts; tuples of them -/
def keyD : D → Option Key
  | .int i => some (.inl i)
  | .str s => some (.inr s)
  | _ => none
def keysD : List D → Option (List Key)
  | [] => some []
  | d :: r => match keyD d, keysD r with
    | some k, some ks => some (k :: ks)
    | _, _ => none
def keyT : D → Option (List Key)
  | .tup ds => keysD ds
  | _ => none
/-- what the dict at n holds at a key -/
def dGet (n : Nat) (y : D) (S : Sto) (Q : Option D → Prop) : Prop :=
  (∃ fz kvs k, S[n]? = some (.dK fz kvs) ∧ keyD y = some k ∧ Q (getA kvs k)) ∨ ∃ fz kvs k, S[n]? = some (.dT fz kvs) ∧ keyT y = some k ∧ Q (getA kvs k)
theorem dGet_mono {n : Nat} {y : D} {S : Sto} {Q Q' : Option D → Prop} (h : ∀ o, Q o → Q' o) (q : dGet n y S Q) : dGet n y S Q' := by
  rcases q with ⟨fz, kvs, k, a, b, c⟩ | ⟨fz, kvs, k, a, b, c⟩
  · exact .inl ⟨fz, kvs, k, a, b, h _ c⟩
  · exact .inr ⟨fz, kvs, k, a, b, h _ c⟩
def cmpIn (neg : Bool) : OpD
  | x, .tup ds, S, Q => flatD x = true ∧ ds.all flatD = true ∧ Q (.bl (sg neg (inF x ds))) S
  | x, .ref n, S, Q => (∃ ds, S[n]? = some (.lst ds) ∧ flatD x = true ∧ ds.all flatD = true ∧ Q (.bl (sg neg (inF x ds))) S) ∨
    (∃ p ps, DpD S x p ∧ DpD S (.ref n) (.list ps) ∧ SeqAt.shaped p = true ∧ SeqAt.shaped (.list ps) = true ∧ Q (.bl (sg neg (ps.any fun z => PyData.eqv z p))) S) ∨
    dGet n x S fun o => Q (.bl (sg neg o.isSome)) S
  | _, _, _, _ => False
def isNon : D → Bool
  | .non => true
  | _ => false
def cmpIs (neg : Bool) : OpD
  | x, .non, S, Q => Q (.bl (sg neg (isNon x))) S
  | _, _, _, _ => False
def cmpD : CmpOp → OpD
  | .Eq => cmpEq false
  | .NotEq => cmpEq true
  | .Lt => cmpII fun i j => decide (i < j)
  | .LtE => cmpII fun i j => decide (i ≤ j)
  | .Gt => cmpII fun i j => decide (j < i)
  | .GtE => cmpII fun i j => decide (j ≤ i)
  | .Is => cmpIs false
  | .IsNot => cmpIs true
  | .In => cmpIn false
  | .NotIn => cmpIn true
section
variable {X : Cx} {K : KF} {H : Hp} {ι : List Addr} {S : Sto}
theorem eqF_V : ∀ {x y : D} {v w : V}, RepV K H ι x v → RepV K H ι y w → flatD x = true → flatD y = true → eqV v w = eqF x y := fun {x y v w} rx ry fx fy => by
  cases x <;> cases fx <;> cases y <;> cases fy <;> cases rx <;> cases ry <;> rfl
theorem flat_V {x : D} {v : V} (r : RepV K H ι x v) (f : flatD x = true) : flatV v = true := by
  cases x <;> cases f <;> cases r <;> rfl
theorem flat_Vs : ∀ {ds : List D} {vs : List V}, RepVs K H ι ds vs → ds.all flatD = true → vs.all flatV = true
  | [], _, h, _ => by cases h; rfl
  | d :: ds, _, h, f => by
    obtain ⟨x, r, rfl, h2, h3⟩ := h
    rw [List.all_cons, Bool.and_eq_true_iff] at f ⊢
    exact ⟨flat_V h2 f.1, flat_Vs h3 f.2⟩
theorem inF_V : ∀ {ds : List D} {vs : List V} {x : D} {v : V}, RepVs K H ι ds vs → RepV K H ι x v → flatD x = true → ds.all flatD = true → inV v vs = inF x ds
  | [], _, _, _, h, _, _, _ => by cases h; rfl
  | d :: ds, _, x, v, h, rx, fx, f => by
    obtain ⟨y, r, rfl, h2, h3⟩ := h
    rw [List.all_cons, Bool.and_eq_true_iff] at f
    unfold inV inF
    rw [List.any_cons, List.any_cons, eqF_V h2 rx f.1 fx]
    have := inF_V h3 rx fx f.2
    unfold inV inF at this
    rw [this]
theorem sg_if (neg b : Bool) : (if neg = true then !b else b) = sg neg b := by cases neg <;> rfl
theorem scal_V {x y : D} {v w : V} {b : Bool} (rx : RepV K H ι x v) (ry : RepV K H ι y w) (e : scalD x y = some b) : scal v w = true ∧ decide (v = w) = b := by
  cases x <;> cases y <;> simp only [scalD, reduceCtorEq, Option.some.injEq] at e
  all_goals (cases rx; cases ry; refine ⟨rfl, ?_⟩; rw [← e]; simp)
theorem cmpEq_mono (neg : Bool) : ∀ x y S (Q Q' : Q1), (∀ d S', Q d S' → Q' d S') → cmpEq neg x y S Q → cmpEq neg x y S Q' := fun x y S Q Q' h q => by
  unfold cmpEq at q ⊢
  split at q
  · exact h _ _ q
  · obtain ⟨p, r, h1, h2, h3, h4, h5⟩ := q
    exact ⟨p, r, h1, h2, h3, h4, h _ _ h5⟩
theorem opEq_S (hu : X.A.units + 64 < cLine) : OpS X (compareOp .Eq) (cmpEq false) where
  mono := cmpEq_mono false
  rd := ⟨_, op_eq.or (op_eqD hu), fun x y S Q vx vy H ι QV R rx ry q k => by
    unfold cmpEq at q
    split at q
    · rename_i b e
      obtain ⟨h1, h2⟩ := scal_V rx ry e
      exact .inl ⟨h1, by rw [h2]; exact k.here R (d := .bl _) rfl q⟩
    · obtain ⟨p, r, h1, h2, h3, h4, h5⟩ := q
      exact .inr ⟨p, r, DpD.dp R p _ _ h1 rx, DpD.dp R r _ _ h2 ry, h3, h4, k.here R (d := .bl _) rfl h5⟩⟩
theorem opNe_S (hu : X.A.units + 64 < cLine) : OpS X (compareOp .NotEq) (cmpEq true) where
  mono := cmpEq_mono true
  rd := ⟨_, op_ne.or (op_neD hu), fun x y S Q vx vy H ι QV R rx ry q k => by
    unfold cmpEq at q
    split at q
    · rename_i b e
      obtain ⟨h1, h2⟩ := scal_V rx ry e
      exact .inl ⟨h1, by rw [h2]; exact k.here R (d := .bl _) rfl q⟩
    · obtain ⟨p, r, h1, h2, h3, h4, h5⟩ := q
      exact .inr ⟨p, r, DpD.dp R p _ _ h1 rx, DpD.dp R r _ _ h2 ry, h3, h4, k.here R (d := .bl _) rfl h5⟩⟩
theorem opII_S {op : CmpOp} {f : Int → Int → Bool} (h : OpR X (compareOp op) (rI0 fun i j => .bl (f i j))) : OpS X (compareOp op) (cmpII f) where
  mono := fun x y S Q Q' h q => by cases x <;> cases y <;> first | exact h _ _ q | exact q
  rd := ⟨_, h, fun x y S Q vx vy H ι QV R rx ry q k => by
    cases x <;> cases y <;> try exact q.elim
    cases rx
    cases ry
    exact ⟨_, _, rfl, rfl, k.here R (d := .bl _) rfl q⟩⟩
theorem keyD_V {x : D} {v : V} {k : Key} (r : RepV K H ι x v) (e : keyD x = some k) : v = kV k := by
  cases x <;> cases e <;> cases r <;> rfl
theorem keysD_V : ∀ {ds : List D} {vs : List V} {ks : List Key}, RepVs K H ι ds vs → keysD ds = some ks → vs = ks.map kV
  | [], _, _, h, e => by cases h; cases e; rfl
  | d :: ds, _, ks, h, e => by
    obtain ⟨x, r, rfl, h2, h3⟩ := h
    unfold keysD at e
    split at e
    · rename_i k ks' e1 e2
      cases e
      rw [keyD_V h2 e1, keysD_V h3 e2]
      rfl
    · cases e
theorem keyT_V {x : D} {v : V} {ks : List Key} (r : RepV K H ι x v) (e : keyT x = some ks) : ∃ b, v = .ref b ∧ H b = some (.tup (ks.map kV)) := by
  cases x <;> try (cases e)
  obtain ⟨a, xs, rfl, h1, h2⟩ := r
  exact ⟨a, rfl, by rw [h1, keysD_V h2 e]⟩
theorem FzIs.rd {fz : Bool} {a : Addr} {o u : HO} (h : FzIs fz o u) (e : H a = some o) : Rd H a u := by
  cases fz with
  | false => cases (show o = u from h); exact .inl e
  | true => obtain ⟨ob, rfl⟩ := h; exact .inr ⟨ob, e⟩
/-- a look into a dict, over the machine's heap -/
theorem dGet_V {n : Nat} {y : D} {vy vx : V} {Q : Option D → Prop} (R : RepS K H ι S) (rx : RepV K H ι (.ref n) vx) (ry : RepV K H ι y vy) (q : dGet n y S Q) :
    ∃ a o r, vx = .ref a ∧ DGet H a vy r ∧ Q o ∧ ((o = none ∧ r = none) ∨ ∃ d v, o = some d ∧ r = some v ∧ RepV K H ι d v) := by
  rcases q with ⟨fz, kvs, k, e1, e2, q⟩ | ⟨fz, kvs, k, e1, e2, q⟩
  · obtain ⟨a, o, rfl, h1, h2, xs, h3, h4⟩ := R.obj rx e1
    refine ⟨a, _, valV xs k, rfl, .inl ⟨xs, k, h3.rd h2, keyD_V ry e2, rfl⟩, q, ?_⟩
    rcases h4.get (k := k) with ⟨g1, g2⟩ | ⟨d, v, g1, g2, g3⟩
    · exact .inl ⟨g1, g2⟩
    · exact .inr ⟨d, v, g1, g2, g3⟩
  · obtain ⟨a, o, rfl, h1, h2, xs, h3, h4⟩ := R.obj rx e1
    obtain ⟨b, h5, h6⟩ := keyT_V ry e2
    refine ⟨a, _, valV xs k, rfl, .inr ⟨xs, k, b, h3.rd h2, h5, h6, rfl⟩, q, ?_⟩
    rcases h4.get (k := k) with ⟨g1, g2⟩ | ⟨d, v, g1, g2, g3⟩
    · exact .inl ⟨g1, g2⟩
    · exact .inr ⟨d, v, g1, g2, g3⟩
def rDInR (neg : Bool) : R2 := fun x y H Q => ∃ a o, y = .ref a ∧ DGet H a x o ∧ Q (.bl (sg neg o.isSome)) H
theorem op_dinR (hu : X.A.units + 1 < cLine) : OpR X (compareOp .In) (rDInR false) := by
  intro pins s σ H x y v u Q I rx ry ⟨a, o, ey, g, q⟩
  subst ey
  obtain rfl : u = Value.ref a := ry
  exact d_in hu I g rx fun s3 I3 => ⟨.bl o.isSome, H, I3, rfl, q⟩
theorem op_dnotInR (hu : X.A.units + 1 < cLine) : OpR X (compareOp .NotIn) (rDInR true) := by
  intro pins s σ H x y v u Q I rx ry ⟨a, o, ey, g, q⟩
  subst ey
  obtain rfl : u = Value.ref a := ry
  exact d_notIn hu I g rx fun s3 I3 => ⟨.bl (!o.isSome), H, I3, rfl, q⟩
def rInDn (K : PySem.W.Frag) (neg : Bool) : R2 := fun x y H Q => ∃ d ds, Dp K H x d ∧ Dp K H y (.list ds) ∧ SeqAt.shaped d = true ∧ SeqAt.shaped (.list ds) = true ∧ Q (.bl (sg neg (ds.any fun z => PyData.eqv z d))) H
theorem opIn_S {op : CmpOp} {neg : Bool} (h : OpR X (compareOp op) (rIn X.K neg)) (hd : OpR X (compareOp op) (rInDn X.K neg)) (hk : OpR X (compareOp op) (rDInR neg)) : OpS X (compareOp op) (cmpIn neg) where
  mono := fun x y S Q Q' h q => by
    cases y <;> try exact q.elim
    · exact ⟨q.1, q.2.1, h _ _ q.2.2⟩
    · rcases q with ⟨ds, h1, h2, h3, h4⟩ | ⟨p, ps, h1, h2, h3, h4, h5⟩ | q
      · exact .inl ⟨ds, h1, h2, h3, h _ _ h4⟩
      · exact .inr (.inl ⟨p, ps, h1, h2, h3, h4, h _ _ h5⟩)
      · exact .inr (.inr (dGet_mono (fun o z => h _ _ z) q))
  rd := ⟨_, h.or (hd.or hk), fun x y S Q vx vy H ι QV R rx ry q k => by
    cases y <;> try exact q.elim
    · obtain ⟨a, xs, rfl, hx, r⟩ := ry
      obtain ⟨q1, q2, q3⟩ := q
      refine .inl ⟨a, xs, rfl, .inr (.inl (.inl hx)), flat_V rx q1, flat_Vs r q2, ?_⟩
      rw [inF_V r rx q1 q2, sg_if]
      exact k.here R (d := .bl _) rfl q3
    · rcases q with ⟨ds, h1, q1, q2, q3⟩ | ⟨p, ps, h1, h2, h3, h4, h5⟩ | q
      · obtain ⟨a, xs, rfl, _, hx, r⟩ := R.list ry h1
        refine .inl ⟨a, xs, rfl, .inl (.inl (.inl hx)), flat_V rx q1, flat_Vs r q2, ?_⟩
        rw [inF_V r rx q1 q2, sg_if]
        exact k.here R (d := .bl _) rfl q3
      · exact .inr (.inl ⟨p, ps, DpD.dp R p _ _ h1 rx, DpD.dp R _ _ _ h2 ry, h3, h4, k.here R (d := .bl _) rfl h5⟩)
      · obtain ⟨a, o, r, rfl, g, q, ho⟩ := dGet_V R ry rx q
        refine .inr (.inr ⟨a, r, rfl, g, ?_⟩)
        have e : o.isSome = r.isSome := by
          rcases ho with ⟨rfl, rfl⟩ | ⟨d, v, rfl, rfl, _⟩ <;> rfl
        rw [← e]
        exact k.here R (d := .bl _) rfl q⟩
theorem non_V {x : D} {v : V} (r : RepV K H ι x v) : decide (v = .non) = isNon x := by
  cases x with
  | non => cases r; rfl
  | bl b => cases r; rfl
  | int i => cases r; rfl
  | str s => cases r; rfl
  | tup ds => obtain ⟨a, xs, rfl, _⟩ := r; rfl
  | fro ds => obtain ⟨a, xs, rfl, _⟩ := r; rfl
  | ref n => obtain ⟨a, _, rfl⟩ := r; rfl
theorem opIs_S : OpS X (compareOp .Is) (cmpIs false) where
  mono := fun x y S Q Q' h q => by cases y <;> first | exact q.elim | exact h _ _ q
  rd := ⟨_, op_isN, fun x y S Q vx vy H ι QV R rx ry q k => by
    cases y <;> try exact q.elim
    cases ry
    refine ⟨rfl, ?_⟩
    rw [non_V rx]
    exact k.here R (d := .bl _) rfl q⟩
theorem opIsNot_S : OpS X (compareOp .IsNot) (cmpIs true) where
  mono := fun x y S Q Q' h q => by cases y <;> first | exact q.elim | exact h _ _ q
  rd := ⟨_, op_notN, fun x y S Q vx vy H ι QV R rx ry q k => by
    cases y <;> try exact q.elim
    cases ry
    refine ⟨rfl, ?_⟩
    rw [non_V rx]
    exact k.here R (d := .bl _) rfl q⟩
theorem cmpD_S (hu : X.A.units + 65 < cLine) : ∀ op : CmpOp, OpS X (compareOp op) (cmpD op)
  | .Eq => opEq_S (Nat.lt_of_le_of_lt (Nat.add_le_add_left (by decide) _) hu)
  | .NotEq => opNe_S (Nat.lt_of_le_of_lt (Nat.add_le_add_left (by decide) _) hu)
  | .Lt => opII_S op_lt
  | .LtE => opII_S op_le
  | .Gt => opII_S op_gt
  | .GtE => opII_S op_ge
  | .Is => opIs_S
  | .IsNot => opIsNot_S
  | .In => opIn_S op_in_seq (op_inD hu) (op_dinR (Nat.lt_of_le_of_lt (Nat.add_le_add_left (by decide) _) hu))
  | .NotIn => opIn_S op_notIn_seq (op_notInD hu) (op_dnotInR (Nat.lt_of_le_of_lt (Nat.add_le_add_left (by decide) _) hu))
end

/-! truth -/
def truD : D → Sto → (Bool → Prop) → Prop
  | .non, _, Q => Q false
  | .bl b, _, Q => Q b
  | .int i, _, Q => Q (i != 0)
  | .str s, _, Q => s.length ≤ sizeLine ∧ Q ((s.length : Int) != 0)
  | .tup ds, _, Q => Q (!ds.isEmpty)
  | .fro ds, _, Q => Q (!ds.isEmpty)
  | .ref n, S, Q => (∃ ds, S[n]? = some (.lst ds) ∧ Q (!ds.isEmpty)) ∨ (∃ kvs, S[n]? = some (.dK false kvs) ∧ Q (!kvs.isEmpty))
theorem truD_mono {d : D} {S : Sto} {Q Q' : Bool → Prop} (h : ∀ b, Q b → Q' b) (q : truD d S Q) : truD d S Q' := by
  cases d <;> first
    | exact h _ q
    | exact ⟨q.1, h _ q.2⟩
    | (rcases q with ⟨ds, a, b⟩ | ⟨ds, a, b⟩
       · exact .inl ⟨ds, a, h _ b⟩
       · exact .inr ⟨ds, a, h _ b⟩)
theorem empty_V {K : KF} {H : Hp} {ι : List Addr} {ds : List D} {vs : List V} (r : RepVs K H ι ds vs) : (!vs.isEmpty) = !ds.isEmpty := by
  cases ds with
  | nil => cases r; rfl
  | cons d ds => obtain ⟨x, t, rfl, _⟩ := r; rfl
theorem truD_V {K : KF} {H : Hp} {ι : List Addr} {S : Sto} {d : D} {v : V} {Q : Bool → Prop} (R : RepS K H ι S) (r : RepV K H ι d v) (q : truD d S Q) : ∃ k, TruV K.K v H k ∧ Q k := by
  cases d with
  | non => cases r; exact ⟨_, rfl, q⟩
  | bl b => cases r; exact ⟨_, rfl, q⟩
  | int i => cases r; exact ⟨_, rfl, q⟩
  | str s => cases r; exact ⟨_, ⟨q.1, rfl⟩, q.2⟩
  | tup ds =>
    obtain ⟨a, xs, rfl, hx, rr⟩ := r
    exact ⟨_, .inr (.inl ⟨xs, .inl (.inl hx), rfl⟩), by rw [empty_V rr]; exact q⟩
  | fro ds =>
    obtain ⟨a, xs, rfl, hx, rr⟩ := r
    exact ⟨_, .inl ⟨xs, hx.sq, rfl⟩, by rw [empty_V rr]; exact q⟩
  | ref n =>
    rcases q with ⟨ds, e, q⟩ | ⟨kvs, e, q⟩
    · obtain ⟨a, xs, rfl, _, hx, rr⟩ := R.list r e
      exact ⟨_, .inl ⟨xs, .inl (.inl hx), rfl⟩, by rw [empty_V rr]; exact q⟩
    · obtain ⟨a, o, rfl, _, h2, xs, h3, h4⟩ := R.obj r e
      cases (show o = .dK xs from h3)
      refine ⟨_, .inr (.inr ⟨xs, h2, rfl⟩), ?_⟩
      have e : xs.isEmpty = kvs.isEmpty := by
        have := h4.length
        cases kvs <;> cases xs <;> first | rfl | cases this
      rw [e]
      exact q

/-! subscripts and slices -/
def gv {α : Type} : Option α → (α → Prop) → Prop
  | some d, Q => Q d
  | none, _ => False
theorem gv_iff {α : Type} {o : Option α} {Q : α → Prop} : gv o Q ↔ ∃ d, o = some d ∧ Q d := by
  cases o with
  | none => exact ⟨fun h => h.elim, fun ⟨_, h, _⟩ => nomatch h⟩
  | some d => exact ⟨fun h => ⟨d, rfl, h⟩, fun ⟨_, h, q⟩ => by cases h; exact q⟩
def idxD : OpD
  | .tup ds, .int i, S, Q => gv (atI ds i) fun d => Q d S
  | .fro ds, .int i, S, Q => gv (atI ds i) fun d => Q d S
  | .ref n, y, S, Q => (∃ ds i, y = .int i ∧ S[n]? = some (.lst ds) ∧ gv (atI ds i) fun d => Q d S) ∨ dGet n y S fun o => gv o fun d => Q d S
  | .str z, .int i, S, Q => z.length ≤ sizeLine ∧ gv (atI z.cps.toList i) fun c => Q (.str ⟨#[c]⟩) S
  | _, _, _, _ => False
theorem RepVs.atI {K : KF} {H : Hp} {ι : List Addr} {ds : List D} {vs : List V} {i : Int} {d : D} (r : RepVs K H ι ds vs) (h : L2.atI ds i = some d) : ∃ v, L2.atI vs i = some v ∧ RepV K H ι d v := by
  unfold L2.atI at h ⊢
  rw [← r.length]
  cases e : ixN ds.length i with
  | none => rw [e] at h; simp at h
  | some j =>
    rw [e] at h
    exact r.get h
theorem idxD_mono : ∀ x y S (Q Q' : Q1), (∀ d S', Q d S' → Q' d S') → idxD x y S Q → idxD x y S Q' := fun x y S Q Q' h q => by
  unfold idxD at q ⊢
  split at q
  · obtain ⟨d, e, q⟩ := gv_iff.mp q
    exact gv_iff.mpr ⟨d, e, h _ _ q⟩
  · obtain ⟨d, e, q⟩ := gv_iff.mp q
    exact gv_iff.mpr ⟨d, e, h _ _ q⟩
  · rcases q with ⟨ds, i, q0, q1, q2⟩ | q
    · obtain ⟨d, e, q⟩ := gv_iff.mp q2
      exact .inl ⟨ds, i, q0, q1, gv_iff.mpr ⟨d, e, h _ _ q⟩⟩
    · exact .inr (dGet_mono (fun o z => by
        obtain ⟨d, e, q⟩ := gv_iff.mp z
        exact gv_iff.mpr ⟨d, e, h _ _ q⟩) q)
  · obtain ⟨q1, q2⟩ := q
    obtain ⟨d, e, q⟩ := gv_iff.mp q2
    exact ⟨q1, gv_iff.mpr ⟨d, e, h _ _ q⟩⟩
  · exact q.elim
def rIxDct : R2 := fun x y H Q => ∃ a v, x = .ref a ∧ DGet H a y (some v) ∧ Q v H
theorem ix_dct {X : Cx} (hu : X.A.units + 1 < cLine) : IxR X rIxDct := by
  intro value slice pins s σ H x y v u Q I rx ry h hs
  obtain ⟨a, r, rfl, g, q⟩ := h
  obtain rfl : v = Value.ref a := rx
  exact tail_any (dict_typeIs I g) PySem.F.slot_dict_getitem.lookup (d_getItem hu I g ry fun w' s3 I3 rw' => ⟨r, H, I3, rw', q⟩) hs
def rIxA (K : PySem.W.Frag) : R2 := fun x y H Q => rIx K x y H Q ∨ rIxDct x y H Q
theorem idxD_V {K : KF} : ∀ x y S Q vx vy H ι QV, RepS K H ι S → RepV K H ι x vx → RepV K H ι y vy → idxD x y S Q → Ok1 K H ι Q QV → rIxA K.K vx vy H QV := fun x y S Q vx vy H ι QV R rx ry q k => by
  unfold idxD at q
  split at q
  · cases ry
    obtain ⟨a, xs, rfl, hx, rr⟩ := rx
    obtain ⟨d, e, q⟩ := gv_iff.mp q
    obtain ⟨v, e2, rv⟩ := rr.atI e
    exact .inl (.inr (.inl ⟨a, xs, _, v, rfl, rfl, .inl (.inl hx), e2, k.here R rv q⟩))
  · cases ry
    obtain ⟨a, xs, rfl, hx, rr⟩ := rx
    obtain ⟨d, e, q⟩ := gv_iff.mp q
    obtain ⟨v, e2, rv⟩ := rr.atI e
    exact .inl (.inl ⟨a, xs, _, v, rfl, rfl, hx.sq, e2, k.here R rv q⟩)
  · rcases q with ⟨ds, i, rfl, q1, q2⟩ | q
    · cases ry
      obtain ⟨a, xs, rfl, _, hx, rr⟩ := R.list rx q1
      obtain ⟨d, e, q⟩ := gv_iff.mp q2
      obtain ⟨v, e2, rv⟩ := rr.atI e
      exact .inl (.inl ⟨a, xs, _, v, rfl, rfl, .inl (.inl hx), e2, k.here R rv q⟩)
    · obtain ⟨a, o, r, rfl, g, q, ho⟩ := dGet_V R rx ry q
      rcases ho with ⟨rfl, rfl⟩ | ⟨d, v, rfl, rfl, rv⟩
      · exact q.elim
      · exact .inr ⟨a, v, rfl, g, k.here R rv q⟩
  · cases rx
    cases ry
    obtain ⟨q1, q2⟩ := q
    obtain ⟨d, e, q⟩ := gv_iff.mp q2
    exact .inl (.inr (.inr ⟨_, _, d, rfl, rfl, q1, e, k.here R (d := .str _) rfl q⟩))
  · exact q.elim
def cutD (xs : List D) (lo hi : Option Int) : List D := (xs.drop (HT.sIx xs.length 0 lo)).take (HT.sIx xs.length xs.length hi - HT.sIx xs.length 0 lo)
theorem RepVs.cut {K : KF} {H : Hp} {ι : List Addr} {ds : List D} {vs : List V} (r : RepVs K H ι ds vs) (lo hi : Option Int) : RepVs K H ι (cutD ds lo hi) (cutV vs lo hi) := by
  unfold cutD cutV
  rw [← r.length]
  exact RepVs.take _ (RepVs.drop _ r)
def slcD : D → Option Int → Option Int → Sto → Q1 → Prop
  | .tup ds, lo, hi, S, Q => Q (.tup (cutD ds lo hi)) S
  | .fro ds, lo, hi, S, Q => Q (.ref S.length) (S ++ [.lst (cutD ds lo hi)])
  | .ref n, lo, hi, S, Q => ∃ ds, S[n]? = some (.lst ds) ∧ Q (.ref S.length) (S ++ [.lst (cutD ds lo hi)])
  | .str z, lo, hi, S, Q => z.length ≤ sizeLine ∧ Q (.str (cutS z lo hi)) S
  | _, _, _, _, _ => False
theorem slcD_mono {x : D} {lo hi : Option Int} {S : Sto} {Q Q' : Q1} (h : ∀ d S', Q d S' → Q' d S') (q : slcD x lo hi S Q) : slcD x lo hi S Q' := by
  cases x <;> first | exact q.elim | exact ⟨q.1, h _ _ q.2⟩ | exact h _ _ q | exact let ⟨ds, a, b⟩ := q; ⟨ds, a, h _ _ b⟩
theorem cutD_whole {ds : List D} {lo hi : Option Int} (h : HT.sIx ds.length 0 lo = 0 ∧ HT.sIx ds.length ds.length hi = ds.length) : cutD ds lo hi = ds := by
  unfold cutD
  rw [h.1, h.2]
  simp
def rSlc (K : PySem.W.Frag) : V → Option Int → Option Int → Hp → VK → Prop := fun x lo hi H Q => rSlA K x lo hi H Q ∨ rSlL K x lo hi H Q ∨ rSlS x lo hi H Q
theorem slc_r {X : Cx} : SlR X (rSlc X.K) := SlR.or sl_tupA (SlR.or sl_list sl_str)
theorem slcD_V {K : KF} {x : D} {lo hi : Option Int} {S : Sto} {Q : Q1} {vx : V} {H : Hp} {ι : List Addr} {QV : VK} (R : RepS K H ι S) (rx : RepV K H ι x vx) (q : slcD x lo hi S Q) (k : Ok1 K H ι Q QV) : rSlc K.K vx lo hi H QV := by
  cases x <;> try exact q.elim
  · cases rx
    exact .inr (.inr ⟨_, rfl, q.1, k.here R (d := .str _) rfl q.2⟩)
  · rename_i ds
    obtain ⟨a, xs, rfl, hx, rr⟩ := rx
    refine .inl ⟨a, xs, rfl, .inl (.inl hx), fun e => ?_, fun _ => ?_⟩
    · have q' : Q (.tup ds) S := by
        have e2 : cutD ds lo hi = ds := cutD_whole (by rw [rr.length]; exact e)
        have q1 : Q (.tup (cutD ds lo hi)) S := q
        rw [e2] at q1
        exact q1
      exact k.here R (d := .tup ds) ⟨a, xs, rfl, hx, rr⟩ q'
    · exact k.newT R (rr.cut lo hi) q
  · obtain ⟨a, xs, rfl, hx, rr⟩ := rx
    exact .inr (.inl ⟨a, xs, rfl, hx.sq, k.newL R (rr.cut lo hi) q⟩)
  · obtain ⟨ds, e, q⟩ := q
    obtain ⟨a, xs, rfl, _, hx, rr⟩ := R.list rx e
    exact .inr (.inl ⟨a, xs, rfl, .inl (.inl hx), k.newL R (rr.cut lo hi) q⟩)
end WW


set_option Elab.async false
set_option linter.all false
set_option maxRecDepth 100000
set_option maxHeartbeats 4000000
set_option autoImplicit false
namespace WW
open PySem PySem.Spec PyProof.Rows L2

/-! ### expressions -/
def MonoW (w : W) : Prop := ∀ ρ S (Q Q' : Q1), (∀ d S', Q d S' → Q' d S') → w ρ S Q → w ρ S Q'
def MonoT (w : WT) : Prop := ∀ ρ S (Q Q' : Bool → Sto → Prop), (∀ d S', Q d S' → Q' d S') → w ρ S Q → w ρ S Q'
def MonoA (w : WA) : Prop := ∀ ρ S (Q Q' : List D → Sto → Prop), (∀ d S', Q d S' → Q' d S') → w ρ S Q → w ρ S Q'
def tE (K : KF) (Y : WX) (w : W) : TE := fun σ H Q => ∃ ρ ι S, RepE K Y H ι σ ρ ∧ RepS K H ι S ∧ w ρ S fun d S' => ∀ v H' ι', Tr H ι H' ι' → RepS K H' ι' S' → RepV K H' ι' d v → Q v H'
def tT (K : KF) (Y : WX) (w : WT) : TT := fun σ H Q => ∃ ρ ι S, RepE K Y H ι σ ρ ∧ RepS K H ι S ∧ w ρ S fun b S' => ∀ H' ι', Tr H ι H' ι' → RepS K H' ι' S' → Q b H'
def tA (K : KF) (Y : WX) (w : WA) : TA := fun σ H Q => ∃ ρ ι S, RepE K Y H ι σ ρ ∧ RepS K H ι S ∧ w ρ S fun ds S' => ∀ vs H' ι', Tr H ι H' ι' → RepS K H' ι' S' → RepVs K H' ι' ds vs → Q vs H'
structure PEw (X : Cx) (e : Expr) (w : W) : Prop where
  mono : MonoW w
  pe : ∀ Y, Takes X Y → PE X e (tE (kf X) Y w)
structure PTw (X : Cx) (e : Expr) (w : WT) : Prop where
  mono : MonoT w
  pe : ∀ Y, Takes X Y → PT X e (tT (kf X) Y w)
structure PWw (X : Cx) (e : Expr) (w : WT) : Prop where
  mono : MonoT w
  pe : ∀ Y, Takes X Y → PW X e (tT (kf X) Y w)
structure PAw (X : Cx) (es : List Expr) (w : WA) : Prop where
  mono : MonoA w
  pe : ∀ Y, Takes X Y → PA X es (tA (kf X) Y w)
theorem PE.weak {X : Cx} {e : Expr} {t t' : TE} (h : PE X e t) (w : ∀ σ H Q, t' σ H Q → t σ H Q) : PE X e t' := ⟨fun pins s σ H Q I q => h.run pins s σ H Q I (w σ H Q q)⟩
theorem PT.weak {X : Cx} {e : Expr} {t t' : TT} (h : PT X e t) (w : ∀ σ H Q, t' σ H Q → t σ H Q) : PT X e t' := ⟨fun pins s σ H Q I q => h.run pins s σ H Q I (w σ H Q q)⟩
theorem PW.weak {X : Cx} {e : Expr} {t t' : TT} (h : PW X e t) (w : ∀ σ H Q, t' σ H Q → t σ H Q) : PW X e t' := ⟨fun wh pins s σ H Q I q => h.run wh pins s σ H Q I (w σ H Q q)⟩
theorem PA.weak {X : Cx} {e : List Expr} {t t' : TA} (h : PA X e t) (w : ∀ σ H Q, t' σ H Q → t σ H Q) : PA X e t' := ⟨fun pos pins s σ H Q I q => h.run pos pins s σ H Q I (w σ H Q q)⟩

def wVar (i : Nat) : W := fun ρ S Q => gv (look ρ.2 i) fun d => Q d S
def wCst (d : D) : W := fun _ S Q => Q d S
def wOp (o : OpD) (a b : W) : W := fun ρ S Q => a ρ S fun x S1 => b ρ S1 fun y S2 => o x y S2 Q
def isInt : D → (Int → Prop) → Prop
  | .int i, Q => Q i
  | _, _ => False
def isBl : D → (Bool → Prop) → Prop
  | .bl i, Q => Q i
  | _, _ => False
def wNeg (a : W) : W := fun ρ S Q => a ρ S fun x S1 => isInt x fun i => Q (.int (-i)) S1
def wNotV (a : W) : W := fun ρ S Q => a ρ S fun x S1 => truD x S1 fun k => Q (.bl (!k)) S1
def wAndV (a b : W) : W := fun ρ S Q => a ρ S fun x S1 => truD x S1 fun k => if k = true then b ρ S1 Q else Q x S1
def wOrV (a b : W) : W := fun ρ S Q => a ρ S fun x S1 => truD x S1 fun k => if k = true then Q x S1 else b ρ S1 Q
def wChain (o p : OpD) (a b c : W) : W := fun ρ S Q => a ρ S fun x S1 => b ρ S1 fun y S2 => o x y S2 fun z S3 => isBl z fun k => if k = true then c ρ S3 fun u S4 => p y u S4 Q else Q (.bl false) S3
def wIf (t : WT) (a b : W) : W := fun ρ S Q => t ρ S fun k S1 => if k = true then a ρ S1 Q else b ρ S1 Q
def wNil : WA := fun _ S Q => Q [] S
def wCons (a : W) (r : WA) : WA := fun ρ S Q => a ρ S fun x S1 => r ρ S1 fun xs S2 => Q (x :: xs) S2
def wTup (a : WA) : W := fun ρ S Q => a ρ S fun xs S1 => xs.length ≤ sizeLine ∧ Q (.tup xs) S1
def wLst (a : WA) : W := fun ρ S Q => a ρ S fun xs S1 => xs.length ≤ sizeLine ∧ Q (.ref S1.length) (S1 ++ [.lst xs])
def wNoP : Env → Sto → (Option Int → Sto → Prop) → Prop := fun _ S Q => Q none S
def wPart (a : W) : Env → Sto → (Option Int → Sto → Prop) → Prop := fun ρ S Q => a ρ S fun x S1 => isInt x fun i => Q (some i) S1
abbrev WO := Env → Sto → (Option Int → Sto → Prop) → Prop
def wSlc (a : W) (lo hi : WO) : W := fun ρ S Q => a ρ S fun x S1 => lo ρ S1 fun l S2 => hi ρ S2 fun h S3 => slcD x l h S3 Q
def callS (n : Nat) (sp : Spec) (ds : List D) (S : Sto) (Q : Q1) : Prop := ds.length = n ∧ ∃ Q0 : Q1, sp ds S Q0 ∧ ∀ d S', Q0 d S' → Q d S'
def wCall (n : Nat) (sp : Spec) (a : WA) : W := fun ρ S Q => a ρ S fun ds S1 => callS n sp ds S1 Q
abbrev CalD := List D → Sto → Q1 → Prop
def wBlt (o : CalD) (a : WA) : W := fun ρ S Q => a ρ S fun ds S1 => o ds S1 Q
abbrev MetD := D → List D → Sto → Q1 → Prop
def wMet (ty : D → Sto → Prop) (o : MetD) (r : W) (a : WA) : W := fun ρ S Q => r ρ S fun x S1 => ty x S1 ∧ a ρ S1 fun ds S2 => o x ds S2 Q
def wBits (a : W) : W := fun ρ S Q => a ρ S fun x S1 => isInt x fun i => Q (.int (Builtin.Int.intBits i : Nat)) S1
def wTst (w : W) : WT := fun ρ S Q => w ρ S fun d S1 => truD d S1 fun b => Q b S1
def wTsB (w : W) : WT := fun ρ S Q => w ρ S fun d S1 => isBl d fun b => Q b S1
def wNotB (t : WT) : WT := fun ρ S Q => t ρ S fun b S1 => Q (!b) S1
def wAndB (t u : WT) : WT := fun ρ S Q => t ρ S fun b S1 => if b = true then u ρ S1 Q else Q false S1
def wOrB (t u : WT) : WT := fun ρ S Q => t ρ S fun b S1 => if b = true then Q true S1 else u ρ S1 Q

theorem isInt_iff {d : D} {Q : Int → Prop} : isInt d Q ↔ ∃ i, d = .int i ∧ Q i := by
  cases d <;> first
    | exact ⟨fun h => ⟨_, rfl, h⟩, fun ⟨_, e, q⟩ => by cases e; exact q⟩
    | exact ⟨fun h => h.elim, fun ⟨_, e, _⟩ => nomatch e⟩
theorem isBl_iff {d : D} {Q : Bool → Prop} : isBl d Q ↔ ∃ i, d = .bl i ∧ Q i := by
  cases d <;> first
    | exact ⟨fun h => ⟨_, rfl, h⟩, fun ⟨_, e, q⟩ => by cases e; exact q⟩
    | exact ⟨fun h => h.elim, fun ⟨_, e, _⟩ => nomatch e⟩

section
variable {X : Cx} {a b c : Expr} {wa wb wc : W} {pos : Pos}
/-- one part, then what follows: the shape of most rules -/
theorem tE_k {K : KF} {Y : WX} {w : W} {σ : L2.St} {H : Hp} {ι : List Addr} {S : Sto} {ρ : Env} {G : Q1} {Q : VK} (m : MonoW w) (E : RepE K Y H ι σ ρ) (R : RepS K H ι S) (h : w ρ S G)
    (k : ∀ d S' v H' ι', Tr H ι H' ι' → RepS K H' ι' S' → RepV K H' ι' d v → RepE K Y H' ι' σ ρ → G d S' → Q v H') : tE K Y w σ H Q :=
  ⟨ρ, ι, S, E, R, m _ _ _ _ (fun d S' g v H' ι' T R' r => k d S' v H' ι' T R' r (E.tr R T) g) h⟩
theorem tT_k {K : KF} {Y : WX} {w : WT} {σ : L2.St} {H : Hp} {ι : List Addr} {S : Sto} {ρ : Env} {G : Bool → Sto → Prop} {Q : Bool → Hp → Prop} (m : MonoT w) (E : RepE K Y H ι σ ρ) (R : RepS K H ι S) (h : w ρ S G)
    (k : ∀ d S' H' ι', Tr H ι H' ι' → RepS K H' ι' S' → RepE K Y H' ι' σ ρ → G d S' → Q d H') : tT K Y w σ H Q :=
  ⟨ρ, ι, S, E, R, m _ _ _ _ (fun d S' g H' ι' T R' => k d S' H' ι' T R' (E.tr R T) g) h⟩
theorem tA_k {K : KF} {Y : WX} {w : WA} {σ : L2.St} {H : Hp} {ι : List Addr} {S : Sto} {ρ : Env} {G : List D → Sto → Prop} {Q : List V → Hp → Prop} (m : MonoA w) (E : RepE K Y H ι σ ρ) (R : RepS K H ι S) (h : w ρ S G)
    (k : ∀ ds S' vs H' ι', Tr H ι H' ι' → RepS K H' ι' S' → RepVs K H' ι' ds vs → RepE K Y H' ι' σ ρ → G ds S' → Q vs H') : tA K Y w σ H Q :=
  ⟨ρ, ι, S, E, R, m _ _ _ _ (fun d S' g v H' ι' T R' r => k d S' v H' ι' T R' r (E.tr R T) g) h⟩

theorem pw_var {i : Nat} {x : Str} (hN : X.N[i]? = some x) (hv : Vis X.env.scope x) (hd : (x == ("__debug__" : Str)) = false) (hcd : (x == ("__classdict__" : Str)) = false) : PEw X (.Name x pos) (wVar i) where
  mono := fun ρ S Q Q' h q => by
    obtain ⟨d, e, q⟩ := gv_iff.mp q
    exact gv_iff.mpr ⟨d, e, h _ _ q⟩
  pe := fun Y tk => PE.weak (pe_var hN hv hd hcd) fun σ H Q ⟨ρ, ι, S, E, R, q⟩ => by
    obtain ⟨d, e, q⟩ := gv_iff.mp q
    obtain ⟨v, e1, r⟩ := E.r.at_ i d e
    exact ⟨v, e1, q v H ι (Tr.refl _ _) R r⟩
theorem pw_cst {e : Expr} {d : D} {v : V} (h : PE X e (tC v)) (r : ∀ H ι, RepV (kf X) H ι d v) : PEw X e (wCst d) where
  mono := fun ρ S Q Q' h q => h _ _ q
  pe := fun Y tk => PE.weak h fun σ H Q ⟨ρ, ι, S, E, R, q⟩ => q v H ι (Tr.refl _ _) R (r H ι)
theorem wOp_mono {o : OpD} (ho : ∀ x y S (Q Q' : Q1), (∀ d S', Q d S' → Q' d S') → o x y S Q → o x y S Q') (ma : MonoW wa) (mb : MonoW wb) : MonoW (wOp o wa wb) := fun ρ S Q Q' h q =>
  ma _ _ _ _ (fun x S1 q1 => mb _ _ _ _ (fun y S2 q2 => ho _ _ _ _ _ h q2) q1) q
theorem wOp_down {K : KF} {Y : WX} {o : OpD} {r : R2} (ma : MonoW wa) (mb : MonoW wb) (hr : ∀ x y S Q vx vy H ι QV, RepS K H ι S → RepV K H ι x vx → RepV K H ι y vy → o x y S Q → Ok1 K H ι Q QV → r vx vy H QV) :
    ∀ σ H Q, tE K Y (wOp o wa wb) σ H Q → tOp r (tE K Y wa) (tE K Y wb) σ H Q := fun σ H Q ⟨ρ, ι, S, E, R, q⟩ =>
  tE_k ma E R q fun x S1 vx H1 ι1 T1 R1 rx E1 q1 => tE_k mb E1 R1 q1 fun y S2 vy H2 ι2 T2 R2 ry E2 q2 =>
    hr x y S2 _ vx vy H2 ι2 Q R2 (RepV.tr R1 T2 _ _ rx) ry q2 fun d S3 q3 v H3 ι3 T3 R3 rv => q3 v H3 ι3 ((T1.trans T2).trans T3) R3 rv
theorem pw_bin {op : Operator} (ha : PEw X a wa) (hb : PEw X b wb) : PEw X (.BinOp a op b pos) (wOp (opD op) wa wb) where
  mono := wOp_mono (opD_S (X := X) op).mono ha.mono hb.mono
  pe := fun Y tk => by
    obtain ⟨r, hr, h⟩ := (opD_S (X := X) op).rd
    exact PE.weak (pe_op hr (ha.pe Y tk) (hb.pe Y tk)) (wOp_down ha.mono hb.mono h)
theorem pw_cmp {op : CmpOp} (hu : X.A.units + 65 < cLine) (ha : PEw X a wa) (hb : PEw X b wb) (hm : behindInMarks op b = false) : PEw X (.Compare a [op] [b] pos) (wOp (cmpD op) wa wb) where
  mono := wOp_mono (cmpD_S hu op).mono ha.mono hb.mono
  pe := fun Y tk => by
    obtain ⟨r, hr, h⟩ := (cmpD_S (X := X) hu op).rd
    exact PE.weak (pe_cmpR hr (ha.pe Y tk) (hb.pe Y tk) hm) (wOp_down ha.mono hb.mono h)
theorem wTsB_mono (m : MonoW wa) : MonoT (wTsB wa) := fun ρ S Q Q' h q => m _ _ _ _ (fun d S1 q1 => by
  obtain ⟨k, e, q⟩ := isBl_iff.mp q1
  exact isBl_iff.mpr ⟨k, e, h _ _ q⟩) q
theorem wTst_mono (m : MonoW wa) : MonoT (wTst wa) := fun ρ S Q Q' h q => m _ _ _ _ (fun d S1 q1 => truD_mono (fun b => h b S1) q1) q
theorem tTest_down {K : KF} {Y : WX} {t : TE} {w : W} (h : ∀ σ H Q, tE K Y w σ H Q → t σ H Q) (m : MonoW w) : ∀ σ H Q, tT K Y (wTsB w) σ H Q → tTest t σ H Q := fun σ H Q ⟨ρ, ι, S, E, R, q⟩ =>
  h σ H _ (tE_k m E R q fun d S1 v H1 ι1 T1 R1 r E1 q1 => by
    obtain ⟨k, e, q2⟩ := isBl_iff.mp q1
    subst e
    cases r
    exact ⟨k, rfl, q2 H1 ι1 T1 R1⟩)
theorem pw_cmpT {op : CmpOp} (hu : X.A.units + 65 < cLine) (ha : PEw X a wa) (hb : PEw X b wb) (hm : behindInMarks op b = false) : PTw X (.Compare a [op] [b] pos) (wTsB (wOp (cmpD op) wa wb)) where
  mono := wTsB_mono (wOp_mono (cmpD_S hu op).mono ha.mono hb.mono)
  pe := fun Y tk => by
    obtain ⟨r, hr, h⟩ := (cmpD_S (X := X) hu op).rd
    exact PT.weak (pt_cmpR hr (ha.pe Y tk) (hb.pe Y tk) hm) (tTest_down (wOp_down ha.mono hb.mono h) (wOp_mono (cmpD_S hu op).mono ha.mono hb.mono))
theorem wChain_mono {o p : OpD} (ho : ∀ x y S (Q Q' : Q1), (∀ d S', Q d S' → Q' d S') → o x y S Q → o x y S Q') (hp : ∀ x y S (Q Q' : Q1), (∀ d S', Q d S' → Q' d S') → p x y S Q → p x y S Q') (ma : MonoW wa) (mb : MonoW wb) (mc : MonoW wc) : MonoW (wChain o p wa wb wc) := fun ρ S Q Q' h q =>
  ma _ _ _ _ (fun x S1 q1 => mb _ _ _ _ (fun y S2 q2 => ho _ _ _ _ _ (fun z S3 q3 => by
    obtain ⟨k, e, q4⟩ := isBl_iff.mp q3
    refine isBl_iff.mpr ⟨k, e, ?_⟩
    cases k with
    | true => exact mc _ _ _ _ (fun u S4 q5 => hp _ _ _ _ _ h q5) q4
    | false => exact h _ _ q4) q2) q1) q
theorem wChain_down {K : KF} {Y : WX} {o p : OpD} {r r' : R2} (ma : MonoW wa) (mb : MonoW wb) (mc : MonoW wc) (mo : ∀ x y S (Q Q' : Q1), (∀ d S', Q d S' → Q' d S') → o x y S Q → o x y S Q')
    (hr : ∀ x y S Q vx vy H ι QV, RepS K H ι S → RepV K H ι x vx → RepV K H ι y vy → o x y S Q → Ok1 K H ι Q QV → r vx vy H QV)
    (hr' : ∀ x y S Q vx vy H ι QV, RepS K H ι S → RepV K H ι x vx → RepV K H ι y vy → p x y S Q → Ok1 K H ι Q QV → r' vx vy H QV) :
    ∀ σ H Q, tE K Y (wChain o p wa wb wc) σ H Q → tChain r r' (tE K Y wa) (tE K Y wb) (tE K Y wc) σ H Q := fun σ H Q ⟨ρ, ι, S, E, R, q⟩ =>
  tE_k ma E R q fun x S1 vx H1 ι1 T1 R1 rx E1 q1 => tE_k mb E1 R1 q1 fun y S2 vy H2 ι2 T2 R2 ry E2 q2 =>
    hr x y S2 _ vx vy H2 ι2 _ R2 (RepV.tr R1 T2 _ _ rx) ry q2 fun d S3 q3 v H3 ι3 T3 R3 rv => by
      obtain ⟨k, e, q4⟩ := isBl_iff.mp q3
      subst e
      cases rv
      refine ⟨k, rfl, ?_⟩
      cases k with
      | true => exact tE_k mc (E2.tr R2 T3) R3 q4 fun u S4 vu H4 ι4 T4 R4 ru E4 q5 => hr' y u S4 _ vy vu H4 ι4 Q R4 (RepV.tr R3 T4 _ _ (RepV.tr R2 T3 _ _ ry)) ru q5 fun d S5 q6 v H5 ι5 T5 R5 rv => q6 v H5 ι5 ((((T1.trans T2).trans T3).trans T4).trans T5) R5 rv
      | false => exact q4 (.bl false) H3 ι3 ((T1.trans T2).trans T3) R3 rfl
theorem pw_chain {op op' : CmpOp} (hu : X.A.units + 65 < cLine) (ha : PEw X a wa) (hb : PEw X b wb) (hc : PEw X c wc) (hm : lastMarks [op, op'] [b, c] = false) : PEw X (.Compare a [op, op'] [b, c] pos) (wChain (cmpD op) (cmpD op') wa wb wc) where
  mono := wChain_mono (cmpD_S hu op).mono (cmpD_S hu op').mono ha.mono hb.mono hc.mono
  pe := fun Y tk => by
    obtain ⟨r, hr, h⟩ := (cmpD_S (X := X) hu op).rd
    obtain ⟨r', hr', h'⟩ := (cmpD_S (X := X) hu op').rd
    exact PE.weak (pe_chain hr hr' (ha.pe Y tk) (hb.pe Y tk) (hc.pe Y tk) hm) (wChain_down ha.mono hb.mono hc.mono (cmpD_S hu op).mono h h')
theorem pw_chainT {op op' : CmpOp} (hu : X.A.units + 65 < cLine) (ha : PEw X a wa) (hb : PEw X b wb) (hc : PEw X c wc) (hm : lastMarks [op, op'] [b, c] = false) : PTw X (.Compare a [op, op'] [b, c] pos) (wTsB (wChain (cmpD op) (cmpD op') wa wb wc)) where
  mono := wTsB_mono (wChain_mono (cmpD_S hu op).mono (cmpD_S hu op').mono ha.mono hb.mono hc.mono)
  pe := fun Y tk => by
    obtain ⟨r, hr, h⟩ := (cmpD_S (X := X) hu op).rd
    obtain ⟨r', hr', h'⟩ := (cmpD_S (X := X) hu op').rd
    exact PT.weak (pt_chain hr hr' (ha.pe Y tk) (hb.pe Y tk) (hc.pe Y tk) hm) (tTest_down (wChain_down ha.mono hb.mono hc.mono (cmpD_S hu op).mono h h') (wChain_mono (cmpD_S hu op).mono (cmpD_S hu op').mono ha.mono hb.mono hc.mono))
theorem pw_truth (ha : PEw X a wa) (he : ∀ whole, isTrue a X.env whole = (do let v ← whole; standAt a.pos; holding [v] (truthy v))) : PTw X a (wTst wa) where
  mono := wTst_mono ha.mono
  pe := fun Y tk => PT.weak (pt_truth (ha.pe Y tk) he) fun σ H Q ⟨ρ, ι, S, E, R, q⟩ => tE_k ha.mono E R q fun d S1 v H1 ι1 T1 R1 r E1 q1 => by
    obtain ⟨k, h1, h2⟩ := truD_V R1 r q1
    exact ⟨k, h1, h2 H1 ι1 T1 R1⟩
theorem pw_neg (ha : PEw X a wa) : PEw X (.UnaryOp .USub a pos) (wNeg wa) where
  mono := fun ρ S Q Q' h q => ha.mono _ _ _ _ (fun x S1 q1 => by
    obtain ⟨i, e, q⟩ := isInt_iff.mp q1
    exact isInt_iff.mpr ⟨i, e, h _ _ q⟩) q
  pe := fun Y tk => PE.weak (pe_un un_neg (ha.pe Y tk)) fun σ H Q ⟨ρ, ι, S, E, R, q⟩ => tE_k ha.mono E R q fun d S1 v H1 ι1 T1 R1 r E1 q1 => by
    obtain ⟨i, e, q⟩ := isInt_iff.mp q1
    subst e
    cases r
    exact ⟨i, rfl, q (.int (-i)) H1 ι1 T1 R1 rfl⟩
theorem pw_notV (ha : PEw X a wa) : PEw X (.UnaryOp .Not a pos) (wNotV wa) where
  mono := fun ρ S Q Q' h q => ha.mono _ _ _ _ (fun x S1 q1 => truD_mono (fun b => h _ _) q1) q
  pe := fun Y tk => PE.weak (pe_notT (ha.pe Y tk)) fun σ H Q ⟨ρ, ι, S, E, R, q⟩ => tE_k ha.mono E R q fun d S1 v H1 ι1 T1 R1 r E1 q1 => by
    obtain ⟨k, h1, h2⟩ := truD_V R1 r q1
    exact ⟨k, h1, h2 (.bl (!k)) H1 ι1 T1 R1 rfl⟩
theorem pw_one {op : BoolOp} (ha : PEw X a wa) : PEw X (.BoolOp op [a] pos) wa := ⟨ha.mono, fun Y tk => pe_one (ha.pe Y tk)⟩
theorem pw_andV {rest : List Expr} (ha : PEw X a wa) (hb : PEw X (.BoolOp .And (b :: rest) pos) wb) : PEw X (.BoolOp .And (a :: b :: rest) pos) (wAndV wa wb) where
  mono := fun ρ S Q Q' h q => ha.mono _ _ _ _ (fun x S1 q1 => truD_mono (fun k q => by
    cases k with
    | true => exact hb.mono _ _ _ _ h q
    | false => exact h _ _ q) q1) q
  pe := fun Y tk => PE.weak (pe_andT (ha.pe Y tk) (hb.pe Y tk)) fun σ H Q ⟨ρ, ι, S, E, R, q⟩ => tE_k ha.mono E R q fun d S1 v H1 ι1 T1 R1 r E1 q1 => by
    obtain ⟨k, h1, h2⟩ := truD_V R1 r q1
    refine ⟨k, h1, ?_⟩
    cases k with
    | true => exact tE_k hb.mono E1 R1 h2 fun d S2 v H2 ι2 T2 R2 r E2 q2 => q2 v H2 ι2 (T1.trans T2) R2 r
    | false => exact h2 v H1 ι1 T1 R1 r
theorem pw_orV {rest : List Expr} (ha : PEw X a wa) (hb : PEw X (.BoolOp .Or (b :: rest) pos) wb) : PEw X (.BoolOp .Or (a :: b :: rest) pos) (wOrV wa wb) where
  mono := fun ρ S Q Q' h q => ha.mono _ _ _ _ (fun x S1 q1 => truD_mono (fun k q => by
    cases k with
    | true => exact h _ _ q
    | false => exact hb.mono _ _ _ _ h q) q1) q
  pe := fun Y tk => PE.weak (pe_orT (ha.pe Y tk) (hb.pe Y tk)) fun σ H Q ⟨ρ, ι, S, E, R, q⟩ => tE_k ha.mono E R q fun d S1 v H1 ι1 T1 R1 r E1 q1 => by
    obtain ⟨k, h1, h2⟩ := truD_V R1 r q1
    refine ⟨k, h1, ?_⟩
    cases k with
    | true => exact h2 v H1 ι1 T1 R1 r
    | false => exact tE_k hb.mono E1 R1 h2 fun d S2 v H2 ι2 T2 R2 r E2 q2 => q2 v H2 ι2 (T1.trans T2) R2 r
theorem pw_if {wt : WT} (hc : PTw X c wt) (ha : PEw X a wa) (hb : PEw X b wb) : PEw X (.IfExp c a b pos) (wIf wt wa wb) where
  mono := fun ρ S Q Q' h q => hc.mono _ _ _ _ (fun k S1 q1 => by
    cases k with
    | true => exact ha.mono _ _ _ _ h q1
    | false => exact hb.mono _ _ _ _ h q1) q
  pe := fun Y tk => PE.weak (pe_ifExp (hc.pe Y tk) (ha.pe Y tk) (hb.pe Y tk)) fun σ H Q ⟨ρ, ι, S, E, R, q⟩ => tT_k hc.mono E R q fun k S1 H1 ι1 T1 R1 E1 q1 => by
    cases k with
    | true => exact tE_k ha.mono E1 R1 q1 fun d S2 v H2 ι2 T2 R2 r E2 q2 => q2 v H2 ι2 (T1.trans T2) R2 r
    | false => exact tE_k hb.mono E1 R1 q1 fun d S2 v H2 ι2 T2 R2 r E2 q2 => q2 v H2 ι2 (T1.trans T2) R2 r
theorem pw_notT {t : WT} (h : PTw X a t) : PTw X (.UnaryOp .Not a pos) (wNotB t) where
  mono := fun ρ S Q Q' g q => h.mono _ _ _ _ (fun k S1 q1 => g _ _ q1) q
  pe := fun Y tk => PT.weak (pt_not (h.pe Y tk)) fun σ H Q ⟨ρ, ι, S, E, R, q⟩ => tT_k h.mono E R q fun k S1 H1 ι1 T1 R1 E1 q1 => q1 H1 ι1 T1 R1
theorem pw_and1T {t : WT} (h : PTw X a t) : PWw X (.BoolOp .And [a] pos) t := ⟨h.mono, fun Y tk => pw_and1 (h.pe Y tk)⟩
theorem pw_or1T {t : WT} (h : PTw X a t) : PWw X (.BoolOp .Or [a] pos) t := ⟨h.mono, fun Y tk => pw_or1 (h.pe Y tk)⟩
theorem pw_andT {t u : WT} {rest : List Expr} (h : PTw X a t) (g : PWw X (.BoolOp .And (b :: rest) pos) u) : PWw X (.BoolOp .And (a :: b :: rest) pos) (wAndB t u) where
  mono := fun ρ S Q Q' w q => h.mono _ _ _ _ (fun k S1 q1 => by
    cases k with
    | true => exact g.mono _ _ _ _ w q1
    | false => exact w _ _ q1) q
  pe := fun Y tk => PW.weak (pw_and (h.pe Y tk) (g.pe Y tk)) fun σ H Q ⟨ρ, ι, S, E, R, q⟩ => tT_k h.mono E R q fun k S1 H1 ι1 T1 R1 E1 q1 => by
    cases k with
    | true => exact tT_k g.mono E1 R1 q1 fun d S2 H2 ι2 T2 R2 E2 q2 => q2 H2 ι2 (T1.trans T2) R2
    | false => exact q1 H1 ι1 T1 R1
theorem pw_orT {t u : WT} {rest : List Expr} (h : PTw X a t) (g : PWw X (.BoolOp .Or (b :: rest) pos) u) : PWw X (.BoolOp .Or (a :: b :: rest) pos) (wOrB t u) where
  mono := fun ρ S Q Q' w q => h.mono _ _ _ _ (fun k S1 q1 => by
    cases k with
    | true => exact w _ _ q1
    | false => exact g.mono _ _ _ _ w q1) q
  pe := fun Y tk => PW.weak (pw_or (h.pe Y tk) (g.pe Y tk)) fun σ H Q ⟨ρ, ι, S, E, R, q⟩ => tT_k h.mono E R q fun k S1 H1 ι1 T1 R1 E1 q1 => by
    cases k with
    | true => exact q1 H1 ι1 T1 R1
    | false => exact tT_k g.mono E1 R1 q1 fun d S2 H2 ι2 T2 R2 E2 q2 => q2 H2 ι2 (T1.trans T2) R2
theorem pw_nil : PAw X [] wNil where
  mono := fun ρ S Q Q' h q => h _ _ q
  pe := fun Y tk => PA.weak pa_nil fun σ H Q ⟨ρ, ι, S, E, R, q⟩ => q [] H ι (Tr.refl _ _) R rfl
theorem pw_cons {es : List Expr} {wr : WA} (ha : PEw X a wa) (hr : PAw X es wr) (hs : starEach (a :: es) X.env = (false, eval a X.env) :: starEach es X.env) : PAw X (a :: es) (wCons wa wr) where
  mono := fun ρ S Q Q' h q => ha.mono _ _ _ _ (fun x S1 q1 => hr.mono _ _ _ _ (fun xs S2 q2 => h _ _ q2) q1) q
  pe := fun Y tk => PA.weak (pa_cons (ha.pe Y tk) (hr.pe Y tk) hs) fun σ H Q ⟨ρ, ι, S, E, R, q⟩ => tE_k ha.mono E R q fun d S1 v H1 ι1 T1 R1 r E1 q1 => tA_k hr.mono E1 R1 q1 fun ds S2 vs H2 ι2 T2 R2 rs E2 q2 =>
    q2 (v :: vs) H2 ι2 (T1.trans T2) R2 ⟨v, vs, rfl, RepV.tr R1 T2 _ _ r, rs⟩
theorem pw_tup {es : List Expr} {wr : WA} {k : Nat} (hr : PAw X es wr) : PEw X (.Tuple es k pos) (wTup wr) where
  mono := fun ρ S Q Q' h q => hr.mono _ _ _ _ (fun xs S1 q1 => ⟨q1.1, h _ _ q1.2⟩) q
  pe := fun Y tk => PE.weak (pe_tup (hr.pe Y tk)) fun σ H Q ⟨ρ, ι, S, E, R, q⟩ => tA_k hr.mono E R q fun ds S1 vs H1 ι1 T1 R1 rs E1 q1 => by
    refine ⟨by rw [← rs.length]; exact q1.1, fun p hp => q1.2 _ _ _ (T1.trans (Tr.new R1 hp)) (RepS.new R1 hp) ⟨p, vs, rfl, upd_same, RepVs.tr R1 (Tr.new R1 hp) _ _ rs⟩⟩
theorem pw_lst {es : List Expr} {wr : WA} (hr : PAw X es wr) : PEw X (.List es pos) (wLst wr) where
  mono := fun ρ S Q Q' h q => hr.mono _ _ _ _ (fun xs S1 q1 => ⟨q1.1, h _ _ q1.2⟩) q
  pe := fun Y tk => PE.weak (pe_lst (hr.pe Y tk)) fun σ H Q ⟨ρ, ι, S, E, R, q⟩ => tA_k hr.mono E R q fun ds S1 vs H1 ι1 T1 R1 rs E1 q1 => by
    refine ⟨by rw [← rs.length]; exact q1.1, fun p hp => q1.2 _ _ _ (T1.trans (Tr.alloc R1 hp)) (RepS.alloc R1 hp rs) (RepV.new R1)⟩
theorem pw_idx (hu : X.A.units + 1 < cLine) (ha : PEw X a wa) (hb : PEw X b wb) (hs : PlainIx b) : PEw X (.Subscript a b pos) (wOp idxD wa wb) where
  mono := wOp_mono idxD_mono ha.mono hb.mono
  pe := fun Y tk => PE.weak (pe_ix (IxR.or ix_seq (ix_dct hu)) (ha.pe Y tk) (hb.pe Y tk) hs) (wOp_down ha.mono hb.mono idxD_V)
def tO (K : KF) (Y : WX) (w : WO) : TO := fun σ H Q => ∃ ρ ι S, RepE K Y H ι σ ρ ∧ RepS K H ι S ∧ w ρ S fun o S' => ∀ H' ι', Tr H ι H' ι' → RepS K H' ι' S' → Q o H'
structure POw (X : Cx) (e : Option Expr) (w : WO) : Prop where
  mono : ∀ ρ S (Q Q' : Option Int → Sto → Prop), (∀ d S', Q d S' → Q' d S') → w ρ S Q → w ρ S Q'
  po : ∀ Y, Takes X Y → PO X e (tO (kf X) Y w)
theorem PO.weak {e : Option Expr} {t t' : TO} (h : PO X e t) (w : ∀ σ H Q, t' σ H Q → t σ H Q) : PO X e t' := by
  obtain ⟨h⟩ := h
  constructor
  intros
  first
    | (apply h <;> first | assumption | (apply w; assumption))
theorem tO_k {K : KF} {Y : WX} {w : WO} {σ : L2.St} {H : Hp} {ι : List Addr} {S : Sto} {ρ : Env} {G : Option Int → Sto → Prop} {Q : Option Int → Hp → Prop} (m : ∀ ρ S (Q Q' : Option Int → Sto → Prop), (∀ d S', Q d S' → Q' d S') → w ρ S Q → w ρ S Q') (E : RepE K Y H ι σ ρ) (R : RepS K H ι S) (h : w ρ S G)
    (k : ∀ d S' H' ι', Tr H ι H' ι' → RepS K H' ι' S' → RepE K Y H' ι' σ ρ → G d S' → Q d H') : tO K Y w σ H Q :=
  ⟨ρ, ι, S, E, R, m _ _ _ _ (fun d S' g H' ι' T R' => k d S' H' ι' T R' (E.tr R T) g) h⟩
theorem pw_oNone : POw X none wNoP where
  mono := fun ρ S Q Q' h q => h _ _ q
  po := fun Y tk => PO.weak po_none fun σ H Q ⟨ρ, ι, S, E, R, q⟩ => q H ι (Tr.refl _ _) R
theorem pw_oSome (ha : PEw X a wa) : POw X (some a) (wPart wa) where
  mono := fun ρ S Q Q' h q => ha.mono _ _ _ _ (fun x S1 q1 => by
    obtain ⟨i, e, q⟩ := isInt_iff.mp q1
    exact isInt_iff.mpr ⟨i, e, h _ _ q⟩) q
  po := fun Y tk => PO.weak (po_some (ha.pe Y tk)) fun σ H Q ⟨ρ, ι, S, E, R, q⟩ => tE_k ha.mono E R q fun d S1 v H1 ι1 T1 R1 r E1 q1 => by
    obtain ⟨i, e, q⟩ := isInt_iff.mp q1
    subst e
    cases r
    exact ⟨i, rfl, q H1 ι1 T1 R1⟩
theorem pw_slc {lo hi : Option Expr} {wl wh : WO} {p2 : Pos} (ha : PEw X a wa) (hl : POw X lo wl) (hh : POw X hi wh) : PEw X (.Subscript a (.Slice lo hi none p2) pos) (wSlc wa wl wh) where
  mono := fun ρ S Q Q' h q => ha.mono _ _ _ _ (fun x S1 q1 => hl.mono _ _ _ _ (fun l S2 q2 => hh.mono _ _ _ _ (fun u S3 q3 => slcD_mono h q3) q2) q1) q
  pe := fun Y tk => PE.weak (pe_slice slc_r (ha.pe Y tk) (hl.po Y tk) (hh.po Y tk)) fun σ H Q ⟨ρ, ι, S, E, R, q⟩ => tE_k ha.mono E R q fun d S1 v H1 ι1 T1 R1 r E1 q1 =>
    tO_k hl.mono E1 R1 q1 fun l S2 H2 ι2 T2 R2 E2 q2 => tO_k hh.mono E2 R2 q2 fun u S3 H3 ι3 T3 R3 E3 q3 =>
      slcD_V R3 (RepV.tr R2 T3 _ _ (RepV.tr R1 T2 _ _ r)) q3 fun d S4 q4 v H4 ι4 T4 R4 rv => q4 v H4 ι4 (((T1.trans T2).trans T3).trans T4) R4 rv
theorem pw_bits {apos : Pos} (ha : PEw X a wa) (hbase : attributeBase a "bit_length" X.env (eval a X.env) = eval a X.env) (hline : (apos.endLine == pos.line) = true) : PEw X (.Call (.Attribute a "bit_length" apos) [] [] pos) (wBits wa) where
  mono := fun ρ S Q Q' h q => ha.mono _ _ _ _ (fun x S1 q1 => by
    obtain ⟨i, e, q⟩ := isInt_iff.mp q1
    exact isInt_iff.mpr ⟨i, e, h _ _ q⟩) q
  pe := fun Y tk => PE.weak (pe_bits (ha.pe Y tk) hbase hline) fun σ H Q ⟨ρ, ι, S, E, R, q⟩ => tE_k ha.mono E R q fun d S1 v H1 ι1 T1 R1 r E1 q1 => by
    obtain ⟨i, e, q⟩ := isInt_iff.mp q1
    subst e
    cases r
    exact ⟨i, rfl, q (.int _) H1 ι1 T1 R1 rfl⟩
/-- the promise of a def, over the machine's heap -/
def spOf (K : KF) (n : Nat) (sp : Spec) : Sp := fun vs H Q _ => ∃ ι S ds, RepS K H ι S ∧ RepVs K H ι ds vs ∧ callS n sp ds S fun d S' => ∀ v H' ι', Tr H ι H' ι' → RepS K H' ι' S' → RepV K H' ι' d v → Q v H'
theorem callS_mono {n : Nat} {sp : Spec} {ds : List D} {S : Sto} {Q Q' : Q1} (h : ∀ d S', Q d S' → Q' d S') (q : callS n sp ds S Q) : callS n sp ds S Q' :=
  let ⟨e, Q0, q1, q2⟩ := q
  ⟨e, Q0, q1, fun d S' z => h _ _ (q2 d S' z)⟩
theorem pw_call {x : Str} {es : List Expr} {wr : WA} {f : Addr} {fd : FuncData} {ps : List Str} {n k : Nat} {sp : Spec} {p : Pos} (F : FnOk X.prog X.w X.K X.mg X.base CX0 k f fd ps (spOf (kf X) n sp)) (hr : Room k X.A) (hg : Gl X x) (hm : X.mg x = some (.ref f))
    (hk : PySem.W.keepIn X.K (.ref f) = true) (hb : Binds X.K fd ps []) (ha : PAw X (a :: es) wr) (hdb : (x == ("__debug__" : Str)) = false) (he : starEach (a :: es) X.env = (false, eval a X.env) :: starEach es X.env) (hpl : (backTo pos (starEach es X.env)).any (·.1) = false) :
    PEw X (.Call (.Name x p) (a :: es) [] pos) (wCall n sp wr) where
  mono := fun ρ S Q Q' h q => ha.mono _ _ _ _ (fun ds S1 q1 => callS_mono h q1) q
  pe := fun Y tk => PE.weak (pe_call F hr hg hm hk hb .nil pass0 (ha.pe Y tk) hdb he hpl) fun σ H Q ⟨ρ, ι, S, E, R, q⟩ => tA_k ha.mono E R q fun ds S1 vs H1 ι1 T1 R1 rs E1 q1 => by
    rw [List.append_nil]
    exact ⟨ι1, S1, ds, R1, rs, callS_mono (fun d S2 q2 v H2 ι2 T2 R2 r => q2 v H2 ι2 (T1.trans T2) R2 r) q1⟩
structure CalS (X : Cx) (f : Value) (o : CalD) : Prop where
  mono : ∀ ds S (Q Q' : Q1), (∀ d S', Q d S' → Q' d S') → o ds S Q → o ds S Q'
  rd : ∃ r, CallR X f r ∧ ∀ ds S Q vs H ι QV, RepS (kf X) H ι S → RepVs (kf X) H ι ds vs → o ds S Q → Ok1 (kf X) H ι Q QV → r vs H QV
theorem wBlt_mono {o : CalD} {wr : WA} (mo : ∀ ds S (Q Q' : Q1), (∀ d S', Q d S' → Q' d S') → o ds S Q → o ds S Q') (m : MonoA wr) : MonoW (wBlt o wr) := fun ρ S Q Q' h q => m _ _ _ _ (fun ds S1 q1 => mo _ _ _ _ h q1) q
theorem pw_bltB {x : Str} {es : List Expr} {wr : WA} {p : Pos} {id : String} {o : CalD} (C : CalS X (.builtin id) o) (hg : Gl X x) (hm : X.mg x = none) (hv : bootBuiltins x = some (.builtin id)) (ha : PAw X (a :: es) wr) (hn : x ≠ "__name__") (hdb : (x == ("__debug__" : Str)) = false)
    (he : starEach (a :: es) X.env = (false, eval a X.env) :: starEach es X.env) (hpl : (backTo pos (starEach es X.env)).any (·.1) = false) : PEw X (.Call (.Name x p) (a :: es) [] pos) (wBlt o wr) where
  mono := wBlt_mono C.mono ha.mono
  pe := fun Y tk => by
    obtain ⟨r, hc, h⟩ := C.rd
    exact PE.weak (pe_callB hc hg hm hv (ha.pe Y tk) hn hdb he hpl) fun σ H Q ⟨ρ, ι, S, E, R, q⟩ => tA_k ha.mono E R q fun ds S1 vs H1 ι1 T1 R1 rs E1 q1 =>
      h ds S1 _ vs H1 ι1 Q R1 rs q1 fun d S2 q2 v H2 ι2 T2 R2 r => q2 v H2 ι2 (T1.trans T2) R2 r
theorem pw_bltT {x : Str} {es : List Expr} {wr : WA} {p : Pos} {id : String} {o : CalD} (C : CalS X (.type id) o) (hg : Gl X x) (hm : X.mg x = none) (hv : bootBuiltins x = some (.type id)) (ha : PAw X (a :: es) wr) (hn : x ≠ "__name__") (hdb : (x == ("__debug__" : Str)) = false)
    (he : starEach (a :: es) X.env = (false, eval a X.env) :: starEach es X.env) (hpl : (backTo pos (starEach es X.env)).any (·.1) = false) : PEw X (.Call (.Name x p) (a :: es) [] pos) (wBlt o wr) where
  mono := wBlt_mono C.mono ha.mono
  pe := fun Y tk => by
    obtain ⟨r, hc, h⟩ := C.rd
    exact PE.weak (pe_callTy hc hg hm hv (ha.pe Y tk) hn hdb he hpl) fun σ H Q ⟨ρ, ι, S, E, R, q⟩ => tA_k ha.mono E R q fun ds S1 vs H1 ι1 T1 R1 rs E1 q1 =>
      h ds S1 _ vs H1 ι1 Q R1 rs q1 fun d S2 q2 v H2 ι2 T2 R2 r => q2 v H2 ι2 (T1.trans T2) R2 r
structure MetS (X : Cx) (T id : String) (ty : D → Sto → Prop) (o : MetD) : Prop where
  mono : ∀ x ds S (Q Q' : Q1), (∀ d S', Q d S' → Q' d S') → o x ds S Q → o x ds S Q'
  ty_ : ∀ x S v H ι, RepS (kf X) H ι S → RepV (kf X) H ι x v → ty x S → tyV X.K T v H
  rd : ∃ r, MtR X id r ∧ ∀ x ds S Q v vs H ι QV, RepS (kf X) H ι S → RepV (kf X) H ι x v → RepVs (kf X) H ι ds vs → o x ds S Q → Ok1 (kf X) H ι Q QV → r v vs H QV
theorem wMet_mono {ty : D → Sto → Prop} {o : MetD} {wr : WA} (mo : ∀ x ds S (Q Q' : Q1), (∀ d S', Q d S' → Q' d S') → o x ds S Q → o x ds S Q') (m : MonoW wa) (mr : MonoA wr) : MonoW (wMet ty o wa wr) := fun ρ S Q Q' h q =>
  m _ _ _ _ (fun x S1 q1 => ⟨q1.1, mr _ _ _ _ (fun ds S2 q2 => mo _ _ _ _ _ h q2) q1.2⟩) q
theorem pw_met {T id : String} {name : Str} {ty : D → Sto → Prop} {o : MetD} {es : List Expr} {wr : WA} {apos : Pos} (M : MetS X T id ty o) (pa : PlainAttrs T) (slot : Slot T name id) (hty : typeOf (.builtin id) = pure (.type "method_descriptor")) (hc : PEw X c wc) (ha : PAw X (a :: es) wr)
    (hbase : attributeBase c name X.env (eval c X.env) = eval c X.env)
    (hfew : ((backTo pos (starEach (a :: es) X.env)).all (fun x => !x.1) && (backToKw pos (keywordEach [] X.env)).all (fun x => x.1.isSome)
      && decide ((a :: es).length + ([] : List Keyword).length + (if ([] : List Keyword).isEmpty then 0 else 1) < 30)) = true)
    (hline : (apos.endLine == pos.line) = true) (hs : starEach (a :: es) X.env = (false, eval a X.env) :: starEach es X.env) (hplain : (backTo pos (starEach es X.env)).any (·.1) = false) :
    PEw X (.Call (.Attribute c name apos) (a :: es) [] pos) (wMet ty o wc wr) where
  mono := wMet_mono M.mono hc.mono ha.mono
  pe := fun Y tk => by
    obtain ⟨r, hm, h⟩ := M.rd
    exact PE.weak (pe_bm pa slot hty hm (hc.pe Y tk) (ha.pe Y tk) hbase hfew hline hs hplain) fun σ H Q ⟨ρ, ι, S, E, R, q⟩ => tE_k hc.mono E R q fun d S1 v H1 ι1 T1 R1 rx E1 q1 =>
      ⟨M.ty_ d S1 v H1 ι1 R1 rx q1.1, tA_k ha.mono E1 R1 q1.2 fun ds S2 vs H2 ι2 T2 R2 rs E2 q2 =>
        h d ds S2 _ v vs H2 ι2 Q R2 (RepV.tr R1 T2 _ _ rx) rs q2 fun d S3 q3 v H3 ι3 T3 R3 r => q3 v H3 ι3 ((T1.trans T2).trans T3) R3 r⟩
theorem pw_met0 {T id : String} {name : Str} {ty : D → Sto → Prop} {o : MetD} {apos : Pos} (M : MetS X T id ty o) (pa : PlainAttrs T) (slot : Slot T name id) (hty : typeOf (.builtin id) = pure (.type "method_descriptor")) (hc : PEw X c wc)
    (hbase : attributeBase c name X.env (eval c X.env) = eval c X.env) (hline : (apos.endLine == pos.line) = true) : PEw X (.Call (.Attribute c name apos) [] [] pos) (wMet ty o wc wNil) where
  mono := wMet_mono M.mono hc.mono fun ρ S Q Q' h q => h _ _ q
  pe := fun Y tk => by
    obtain ⟨r, hm, h⟩ := M.rd
    exact PE.weak (pe_bm0 pa slot hty hm (hc.pe Y tk) hbase hline) fun σ H Q ⟨ρ, ι, S, E, R, q⟩ => tE_k hc.mono E R q fun d S1 v H1 ι1 T1 R1 rx E1 q1 =>
      ⟨M.ty_ d S1 v H1 ι1 R1 rx q1.1, h d [] S1 _ v [] H1 ι1 Q R1 rx rfl q1.2 fun d S3 q3 v H3 ι3 T3 R3 r => q3 v H3 ι3 (T1.trans T3) R3 r⟩
end
end WW
namespace WW
open PySem PySem.Spec PyProof.Rows L2
/-! ### a call of a def that may raise -/
def callX (n : Nat) (sp : SpecX) (ds : List D) (S : Sto) (Q : Q1) (E : XQ) : Prop := ds.length = n ∧ ∃ (Q0 : Q1) (E0 : XQ), sp ds S Q0 E0 ∧ (∀ d S', Q0 d S' → Q d S') ∧ ∀ c fs S', E0 c fs S' → E c fs S'
def wCallX (n : Nat) (sp : SpecX) (a : WA) : W := fun ρ S Q => a ρ S fun ds S1 => callX n sp ds S1 Q ρ.1
def spOfX (K : KF) (n : Nat) (sp : SpecX) : Sp := fun vs H Q E => ∃ ι S ds x, RepS K H ι S ∧ RepVs K H ι ds vs ∧ EnX K H ι x E ∧ callX n sp ds S (fun d S' => ∀ v H' ι', Tr H ι H' ι' → RepS K H' ι' S' → RepV K H' ι' d v → Q v H') x
theorem callX_mono {n : Nat} {sp : SpecX} {ds : List D} {S : Sto} {Q Q' : Q1} {E : XQ} (h : ∀ d S', Q d S' → Q' d S') (q : callX n sp ds S Q E) : callX n sp ds S Q' E :=
  let ⟨e, Q0, E0, q1, q2, q3⟩ := q
  ⟨e, Q0, E0, q1, fun d S' z => h _ _ (q2 d S' z), q3⟩
theorem pw_callX {X : Cx} {a : Expr} {pos : Pos} {x : Str} {es : List Expr} {wr : WA} {f : Addr} {fd : FuncData} {ps : List Str} {n k : Nat} {sp : SpecX} {p : Pos} (F : FnOk X.prog X.w X.K X.mg X.base (L2.CX X.prog X.w) k f fd ps (spOfX (kf X) n sp)) (hr : Room k X.A) (hg : Gl X x) (hm : X.mg x = some (.ref f))
    (hk : PySem.W.keepIn X.K (.ref f) = true) (hb : Binds X.K fd ps []) (ha : PAw X (a :: es) wr) (hdb : (x == ("__debug__" : Str)) = false) (he : starEach (a :: es) X.env = (false, eval a X.env) :: starEach es X.env) (hpl : (backTo pos (starEach es X.env)).any (·.1) = false) :
    PEw X (.Call (.Name x p) (a :: es) [] pos) (wCallX n sp wr) where
  mono := fun ρ S Q Q' h q => ha.mono _ _ _ _ (fun ds S1 q1 => callX_mono h q1) q
  pe := fun Y tk => PE.weak (pe_callS F hr hg hm hk hb (fun σ => passAt tk σ) (ha.pe Y tk) hdb he hpl) fun σ H Q ⟨ρ, ι, S, E, R, q⟩ => tA_k ha.mono E R q fun ds S1 vs H1 ι1 T1 R1 rs E1 q1 =>
    ⟨ι1, S1, ds, ρ.1, R1, rs, E1.x, callX_mono (fun d S2 q2 v H2 ι2 T2 R2 r => q2 v H2 ι2 (T1.trans T2) R2 r) q1⟩
end WW


set_option Elab.async false
set_option linter.all false
set_option maxRecDepth 100000
set_option maxHeartbeats 4000000
set_option autoImplicit false
namespace WW
open PySem PySem.Spec PyProof.Rows L2

/-! ### targets -/
inductive Pat where
  | nm (i : Nat)
  | tp (is : List Nat)
def bindL : List Nat → List D → Rho → Option Rho
  | [], [], ρ => some ρ
  | i :: is, d :: ds, ρ => bindL is ds (putR ρ i (some d))
  | _, _, _ => none
def bindP : Pat → D → Rho → Option Rho
  | .nm i, d, ρ => some (putR ρ i (some d))
  | .tp is, .tup ds, ρ => bindL is ds ρ
  | .tp _, _, _ => none
def gNames : List Nat → TGs
  | [] => gNil
  | i :: is => gCons (gName i) (gNames is)
def gP (K : PySem.W.Frag) : Pat → TG
  | .nm i => gName i
  | .tp is => gTup K is.length (gNames is)
def Pat.vs : Pat → List Nat
  | .nm i => [i]
  | .tp is => is
section
variable {K : KF} {H : Hp} {ι : List Addr} {S : Sto}
/-- σ' differs from σ at these slots alone -/
def Only (vs : List Nat) (σ σ' : L2.St) : Prop := σ'.length = σ.length ∧ ∀ i, i ∉ vs → σ'[i]? = σ[i]?
theorem Only.refl (vs : List Nat) (σ : L2.St) : Only vs σ σ := ⟨rfl, fun _ _ => rfl⟩
theorem Only.set {vs : List Nat} {σ : L2.St} {i : Nat} {x : Option V} (h : i ∈ vs) : Only vs σ (σ.set i x) :=
  ⟨List.length_set, fun j hj => by rw [List.getElem?_set_ne (fun e => hj (by subst e; exact h))]⟩
theorem Only.trans {vs : List Nat} {a b c : L2.St} (h : Only vs a b) (g : Only vs b c) : Only vs a c := ⟨g.1.trans h.1, fun i hi => (g.2 i hi).trans (h.2 i hi)⟩
theorem Only.mono {vs ws : List Nat} {a b : L2.St} (h : Only vs a b) (g : ∀ i ∈ vs, i ∈ ws) : Only ws a b := ⟨h.1, fun i hi => h.2 i fun q => hi (g i q)⟩
theorem wipe_at {σ : L2.St} : ∀ {vs : List Nat} {i : Nat}, (L2.wipe σ vs)[i]? = if i ∈ vs ∧ i < σ.length then some none else σ[i]?
  | [], i => by simp [L2.wipe]
  | v :: vs, i => by
    unfold L2.wipe
    by_cases hi : v = i
    · subst hi
      by_cases hl : v < σ.length
      · rw [List.getElem?_set_self (by rw [wipe_length]; exact hl), if_pos ⟨List.mem_cons_self, hl⟩]
      · rw [List.getElem?_eq_none (by rw [List.length_set, wipe_length]; omega), if_neg (fun q => hl q.2), List.getElem?_eq_none (by omega)]
    · rw [List.getElem?_set_ne hi, wipe_at]
      have : i ∈ v :: vs ↔ i ∈ vs := ⟨fun q => (List.mem_cons.mp q).elim (fun e => absurd e.symm hi) id, List.mem_cons_of_mem _⟩
      simp only [this]
theorem wipe_only {vs : List Nat} {σ σ' : L2.St} (h : Only vs σ σ') : L2.wipe σ' vs = L2.wipe σ vs := by
  apply List.ext_getElem?
  intro i
  rw [wipe_at, wipe_at, h.1]
  split
  · rfl
  · rename_i hn
    by_cases hi : i ∈ vs
    · have hl : ¬ i < σ.length := fun z => hn ⟨hi, z⟩
      rw [List.getElem?_eq_none (by rw [h.1]; omega), List.getElem?_eq_none (by omega)]
    · exact h.2 i hi
theorem wipe_wipe {vs : List Nat} {σ : L2.St} : L2.wipe (L2.wipe σ vs) vs = L2.wipe σ vs := wipe_only ⟨wipe_length σ vs, fun i hi => by
  rw [wipe_at, if_neg fun q => hi q.1]⟩
theorem bindL_S : ∀ {is : List Nat} {ds : List D} {vs : List V} {ρ ρ' : Rho} {σ : L2.St} {Q : L2.St → Hp → Prop}, bindL is ds ρ = some ρ' → RepR K H ι σ ρ → RepVs K H ι ds vs →
    (∀ σ', RepR K H ι σ' ρ' → Only is σ σ' → Q σ' H) → gNames is vs σ H Q
  | [], [], _, _, _, _, _, e, E, r, k => by
    cases e
    cases r
    exact ⟨rfl, k _ E (Only.refl _ _)⟩
  | [], _ :: _, _, _, _, _, _, e, _, _, _ => nomatch e
  | _ :: _, [], _, _, _, _, _, e, _, _, _ => nomatch e
  | i :: is, d :: ds, _, ρ, ρ', σ, Q, e, E, r, k => by
    obtain ⟨v, t, rfl, r1, r2⟩ := r
    refine ⟨v, t, rfl, ?_⟩
    exact bindL_S (is := is) (ds := ds) e (E.put r1) r2 fun σ' E' o => k σ' E' ((Only.set List.mem_cons_self).trans (o.mono fun j hj => List.mem_cons_of_mem _ hj))
theorem bindL_len : ∀ {is : List Nat} {ds : List D} {ρ ρ' : Rho}, bindL is ds ρ = some ρ' → ds.length = is.length
  | [], [], _, _, _ => rfl
  | [], _ :: _, _, _, e => nomatch e
  | _ :: _, [], _, _, e => nomatch e
  | i :: is, d :: ds, ρ, ρ', e => by
    rw [List.length_cons, List.length_cons, bindL_len (is := is) (ds := ds) e]
theorem bindP_S {p : Pat} {d : D} {v : V} {ρ ρ' : Rho} {σ : L2.St} {Q : L2.St → Hp → Prop} (e : bindP p d ρ = some ρ') (E : RepR K H ι σ ρ) (r : RepV K H ι d v)
    (k : ∀ σ', RepR K H ι σ' ρ' → Only p.vs σ σ' → Q σ' H) : gP K.K p v σ H Q := by
  cases p with
  | nm i =>
    cases e
    exact k _ (E.put r) (Only.set List.mem_cons_self)
  | tp is =>
    cases d with
    | tup ds =>
      obtain ⟨a, xs, rfl, hx, rs⟩ := r
      exact ⟨a, xs, rfl, .inl (.inl hx), by rw [← rs.length]; exact bindL_len e, bindL_S e E rs k⟩
    | non => exact nomatch e
    | bl _ => exact nomatch e
    | int _ => exact nomatch e
    | str _ => exact nomatch e
    | fro _ => exact nomatch e
    | ref _ => exact nomatch e
/-! unpacking a tuple or a list -/
def bindQ : Pat → D → Sto → Rho → Option Rho
  | .tp is, .ref n, S, ρ => (match S[n]? with
    | some (.lst ds) => bindL is ds ρ
    | _ => none)
  | p, d, _, ρ => bindP p d ρ
def gQ (K : PySem.W.Frag) : Pat → TG
  | .nm i => gName i
  | .tp is => fun v σ H Q => gTup K is.length (gNames is) v σ H Q ∨ gLst K is.length (gNames is) v σ H Q
theorem pg_or {X : Cx} {e : Expr} {t t' : TG} (h : PG X e t) (h' : PG X e t') : PG X e fun v σ H Q => t v σ H Q ∨ t' v σ H Q :=
  ⟨fun pins s σ H v u Q I r hw => hw.elim (h.run pins s σ H v u Q I r) (h'.run pins s σ H v u Q I r)⟩
theorem bindQ_S {p : Pat} {d : D} {v : V} {ρ ρ' : Rho} {σ : L2.St} {Q : L2.St → Hp → Prop} (e : bindQ p d S ρ = some ρ') (R : RepS K H ι S) (E : RepR K H ι σ ρ) (r : RepV K H ι d v)
    (k : ∀ σ', RepR K H ι σ' ρ' → Only p.vs σ σ' → Q σ' H) : gQ K.K p v σ H Q := by
  cases p with
  | nm i => exact bindP_S (p := .nm i) (by cases d <;> exact e) E r k
  | tp is =>
    cases d with
    | ref n =>
      have e : (match S[n]? with | some (.lst ds) => bindL is ds ρ | _ => none) = some ρ' := e
      split at e
      · rename_i ds hs
        obtain ⟨a, xs, rfl, _, hx, rs⟩ := R.list r hs
        exact .inr ⟨a, xs, rfl, .inl (.inl hx), by rw [← rs.length]; exact bindL_len e, bindL_S e E rs k⟩
      · cases e
    | tup ds => exact .inl (bindP_S (p := .tp is) (d := .tup ds) (show bindP (.tp is) (.tup ds) ρ = some ρ' from e) E r k)
    | non => cases e
    | bl _ => cases e
    | int _ => cases e
    | str _ => cases e
    | fro _ => cases e
end

/-! ### what is walked: the items, and what must stand at every turn -/
structure Src where
  items : List D
  stab : Sto → Prop
abbrev WI := Env → Sto → (Src → Sto → Prop) → Prop
def MonoI (w : WI) : Prop := ∀ ρ S (Q Q' : Src → Sto → Prop), (∀ d S', Q d S' → Q' d S') → w ρ S Q → w ρ S Q'
/-- the machine's walk J, from H0 on, yields the items -/
def ItOk (K : KF) (H0 : Hp) (ι0 : List Addr) (J : It) (s : Src) : Prop := ∀ i H ι S, Tr H0 ι0 H ι → RepS K H ι S → s.stab S →
  (∀ d, s.items[i]? = some d → J.go i H ∧ ∀ x H', J.yld i H x H' → Tr H ι H' ι ∧ RepS K H' ι S ∧ RepV K H' ι d x) ∧ (s.items.length ≤ i → J.stop i H)
def tI (K : KF) (Y : WX) (w : WI) : TI := fun σ H R => ∃ ρ ι S, RepE K Y H ι σ ρ ∧ RepS K H ι S ∧ w ρ S fun s S' => ∀ J H' ι', Tr H ι H' ι' → RepS K H' ι' S' → ItOk K H' ι' J s → R J H'
structure PIw (X : Cx) (tg e : Expr) (w : WI) : Prop where
  mono : MonoI w
  pi : ∀ Y, Takes X Y → PI X tg e (tI (kf X) Y w)
theorem PI.weak {X : Cx} {tg e : Expr} {t t' : TI} (h : PI X tg e t) (w : ∀ σ H Q, t' σ H Q → t σ H Q) : PI X tg e t' := ⟨fun pins s σ H Q I q => h.run pins s σ H Q I (w σ H Q q)⟩
def srcD : D → Sto → (Src → Prop) → Prop
  | .tup ds, _, Q => Q ⟨ds, fun _ => True⟩
  | .fro ds, _, Q => Q ⟨ds, fun _ => True⟩
  | .ref n, S, Q => ∃ ds, S[n]? = some (.lst ds) ∧ Q ⟨ds, fun S' => S'[n]? = some (.lst ds)⟩
  | .str z, _, Q => Q ⟨z.cps.toList.map fun c => .str ⟨#[c]⟩, fun _ => True⟩
  | _, _, _ => False
theorem srcD_mono {d : D} {S : Sto} {Q Q' : Src → Prop} (h : ∀ s, Q s → Q' s) (q : srcD d S Q) : srcD d S Q' := by
  cases d <;> first | exact q.elim | exact h _ q | exact let ⟨ds, a, b⟩ := q; ⟨ds, a, h _ b⟩
def wSeqI (w : W) : WI := fun ρ S Q => w ρ S fun d S1 => srcD d S1 fun s => Q s S1
def rngD : List D → (Src → Prop) → Prop
  | [.int j], Q => (-(2 ^ 62) ≤ j ∧ j < 2 ^ 62) ∧ Q ⟨(List.range j.toNat).map fun k => .int ((0 : Int) + (k : Nat)), fun _ => True⟩
  | [.int i, .int j], Q => (-(2 ^ 62) ≤ i ∧ i < 2 ^ 62 ∧ -(2 ^ 62) ≤ j ∧ j < 2 ^ 62) ∧ Q ⟨(List.range (j - i).toNat).map fun k => .int (i + (k : Nat)), fun _ => True⟩
  | [.int i, .int j, .int c], Q => ∃ n, RgC i j c n ∧ Q ⟨(List.range n).map fun k => .int (i + (k : Nat) * c), fun _ => True⟩
  | _, _ => False
def wRng (a : WA) : WI := fun ρ S Q => a ρ S fun ds S1 => rngD ds fun s => Q s S1
section
variable {X : Cx} {tg e : Expr} {w : W} {K : KF} {H : Hp} {ι : List Addr} {S : Sto}
theorem itok_list {n : Nat} {a : Addr} {ds : List D} (h : ι[n]? = some a) : ItOk K H ι (Itl K.K a) ⟨ds, fun S' => S'[n]? = some (.lst ds)⟩ := fun i H1 ι1 S1 T R st => by
  obtain ⟨_, e1, xs, rfl, r⟩ := R.ob n a _ (T.get h) st
  have hq : SqL K.K H1 a xs := .inl (.inl e1)
  refine ⟨fun d hd => ?_, fun hl => ⟨xs, hq, by rw [← r.length]; exact hl⟩⟩
  obtain ⟨x, hx, rx⟩ := r.get hd
  refine ⟨⟨xs, x, hq, hx⟩, fun y H' hy => ?_⟩
  obtain ⟨rfl, f⟩ := hy
  have := f xs hq
  rw [hx] at this
  cases this
  exact ⟨Tr.refl _ _, R, rx⟩
theorem itok_fro {a : Addr} {xs : List V} {ds : List D} (h : SqK K H a xs) (r : RepVs K H ι ds xs) (R0 : RepS K H ι S) : ItOk K H ι (Itl K.K a) ⟨ds, fun _ => True⟩ := fun i H1 ι1 S1 T R st => by
  have hq : SqL K.K H1 a xs := (SqK.tr R0 T h).sq
  have r1 := RepVs.tr R0 T _ _ r
  refine ⟨fun d hd => ?_, fun hl => ⟨xs, hq, by rw [← r.length]; exact hl⟩⟩
  obtain ⟨x, hx, rx⟩ := r1.get hd
  refine ⟨⟨xs, x, hq, hx⟩, fun y H' hy => ?_⟩
  obtain ⟨rfl, f⟩ := hy
  have := f xs hq
  rw [hx] at this
  cases this
  exact ⟨Tr.refl _ _, R, rx⟩
theorem itok_tup {a : Addr} {xs : List V} {ds : List D} (h : H a = some (.tup xs)) (r : RepVs K H ι ds xs) (R0 : RepS K H ι S) : ItOk K H ι (Itt K.K a) ⟨ds, fun _ => True⟩ := fun i H1 ι1 S1 T R st => by
  have hq : SqT K.K H1 a xs := .inl (.inl (tup_tr R0 T h))
  have r1 := RepVs.tr R0 T _ _ r
  refine ⟨fun d hd => ?_, fun hl => ⟨xs, hq, by rw [← r.length]; exact hl⟩⟩
  obtain ⟨x, hx, rx⟩ := r1.get hd
  refine ⟨⟨xs, x, hq, hx⟩, fun y H' hy => ?_⟩
  obtain ⟨rfl, f⟩ := hy
  have := f xs hq
  rw [hx] at this
  cases this
  exact ⟨Tr.refl _ _, R, rx⟩
theorem itok_str {z : Str} : ItOk K H ι (Its z) ⟨z.cps.toList.map fun c => .str ⟨#[c]⟩, fun _ => True⟩ := fun i H1 ι1 S1 T R st => by
  refine ⟨fun d hd => ?_, fun hl => ?_⟩
  · rw [List.getElem?_map] at hd
    cases q : z.cps.toList[i]? with
    | none => rw [q] at hd; cases hd
    | some c =>
      rw [q] at hd
      cases hd
      have hc : z.cps[i]? = some c := by rw [← q]; simp
      refine ⟨(Array.getElem?_eq_some_iff.mp hc).1, fun y H' hy => ?_⟩
      obtain ⟨rfl, c', e1, rfl⟩ := hy
      rw [hc] at e1
      cases e1
      exact ⟨Tr.refl _ _, R, rfl⟩
  · show z.cps.size ≤ i
    simpa using hl
theorem itok_rng {lo : Int} {n : Nat} : ItOk K H ι (Itr lo n) ⟨(List.range n).map fun k => .int (lo + (k : Nat)), fun _ => True⟩ := fun i H1 ι1 S1 T R st => by
  refine ⟨fun d hd => ?_, fun hl => by show n ≤ i; simpa using hl⟩
  rw [List.getElem?_map] at hd
  cases q : (List.range n)[i]? with
  | none => rw [q] at hd; cases hd
  | some k =>
    obtain ⟨h1, h2⟩ := List.getElem?_eq_some_iff.mp q
    rw [List.getElem_range] at h2
    subst h2
    rw [q] at hd
    cases hd
    refine ⟨by show i < n; simpa using h1, fun y H' hy => ?_⟩
    obtain ⟨rfl, rfl⟩ := hy
    exact ⟨Tr.refl _ _, R, rfl⟩
theorem itok_rngC {lo c : Int} {n : Nat} : ItOk K H ι (Itc lo c n) ⟨(List.range n).map fun k => .int (lo + (k : Nat) * c), fun _ => True⟩ := fun i H1 ι1 S1 T R st => by
  refine ⟨fun d hd => ?_, fun hl => by show n ≤ i; simpa using hl⟩
  rw [List.getElem?_map] at hd
  cases q : (List.range n)[i]? with
  | none => rw [q] at hd; cases hd
  | some k =>
    obtain ⟨h1, h2⟩ := List.getElem?_eq_some_iff.mp q
    rw [List.getElem_range] at h2
    subst h2
    rw [q] at hd
    cases hd
    refine ⟨by show i < n; simpa using h1, fun y H' hy => ?_⟩
    obtain ⟨rfl, rfl⟩ := hy
    exact ⟨Tr.refl _ _, R, rfl⟩
theorem pi_or {t u : TI} (h : PI X tg e t) (g : PI X tg e u) : PI X tg e (fun σ H R => t σ H R ∨ u σ H R) :=
  ⟨fun pins s σ H Q I q => q.elim (h.run pins s σ H Q I) (g.run pins s σ H Q I)⟩
theorem pw_seqI (h : PEw X e w) : PIw X tg e (wSeqI w) where
  mono := fun ρ S Q Q' g q => h.mono _ _ _ _ (fun d S1 q1 => srcD_mono (fun s => g s S1) q1) q
  pi := fun Y tk => by
    refine ⟨fun pins s σ H Q I q => ?_⟩
    obtain ⟨ρ, ι, S, E, R, q⟩ := q
    -- the value first, then its kind
    refine thn ((h.pe Y tk).run pins s σ H (fun x H1 => ∃ R : Unit, (iList X.K (fun _ H R => R x H) σ H1 Q ∨ iTup X.K (fun _ H R => R x H) σ H1 Q ∨ iStr (fun _ H R => R x H) σ H1 Q)) I
      (tE_k h.mono E R q fun d S1 v H1 ι1 T1 R1 r E1 q1 => ⟨(), ?_⟩)) fun v s1 ⟨x, H1, I1, r1, _, q1⟩ => ?_
    · cases d <;> try exact q1.elim
      · cases r
        exact .inr (.inr ⟨_, rfl, q1 _ H1 ι1 T1 R1 itok_str⟩)
      · obtain ⟨a, xs, rfl, hx, rr⟩ := r
        exact .inr (.inl ⟨a, rfl, ⟨xs, .inl (.inl hx)⟩, q1 _ H1 ι1 T1 R1 (itok_tup hx rr R1)⟩)
      · obtain ⟨a, xs, rfl, hx, rr⟩ := r
        exact .inl ⟨a, rfl, ⟨xs, hx.sq⟩, q1 _ H1 ι1 T1 R1 (itok_fro hx rr R1)⟩
      · obtain ⟨ds, e, q1⟩ := q1
        obtain ⟨a, xs, rfl, hi, hx, rr⟩ := R1.list r e
        exact .inl ⟨a, rfl, ⟨xs, .inl (.inl hx)⟩, q1 _ H1 ι1 T1 R1 (itok_list hi)⟩
    · rcases q1 with q1 | q1 | q1
      · obtain ⟨a, e1, ⟨xs, hq⟩, q⟩ := q1
        subst e1
        cases r1
        obtain ⟨its, rv, p, hz⟩ := I1.list hq
        refine wpAny_pyIter_list p.isList ?_
        refine ⟨s1.heap.objs.size, [s1.heap.objs.size], _, _, H1, rfl, I1.kept (t' := s1.toks) fun b o e => Heap.get?_push_of_some _ e, turn_list a _, ⟨_, Heap.get?_push_size _ rfl, rfl, rfl⟩, fun b hb => ?_, q⟩
        have e : b = s1.heap.objs.size := by simpa using hb
        subst e
        exact I1.fpOk (Nat.le_refl _) (I1.hok.fresh (Nat.le_refl _))
      · obtain ⟨a, e1, ⟨xs, hq⟩, q⟩ := q1
        subst e1
        cases r1
        obtain ⟨its, rv, p, hz⟩ := I1.tuple hq
        refine wpAny_pyIter_tuple (show s1.heap.IsTuple a its.toArray from p) ?_
        refine ⟨s1.heap.objs.size, [s1.heap.objs.size], _, _, H1, rfl, I1.kept (t' := s1.toks) fun b o e => Heap.get?_push_of_some _ e, turn_tuple a _, ⟨_, Heap.get?_push_size _ rfl, rfl, rfl⟩, fun b hb => ?_, q⟩
        have e : b = s1.heap.objs.size := by simpa using hb
        subst e
        exact I1.fpOk (Nat.le_refl _) (I1.hok.fresh (Nat.le_refl _))
      · obtain ⟨x, ex, q⟩ := q1
        subst ex
        obtain ⟨t, rfl⟩ := r1
        cases ha : x.cps.all (· < 128)
        · exact wpAny_pyIter_wide ha (pi_one (tk := s1.toks) I1 _ (turn_str _ x t "str_iterator" (.inr rfl)) ⟨_, Heap.get?_push_size _ rfl, rfl, rfl⟩ q)
        · exact wpAny_pyIter_ascii ha (pi_one (tk := s1.toks) I1 _ (turn_str _ x t "str_ascii_iterator" (.inl rfl)) ⟨_, Heap.get?_push_size _ rfl, rfl, rfl⟩ q)
end
end WW


set_option Elab.async false
set_option linter.all false
set_option maxRecDepth 100000
set_option maxHeartbeats 4000000
set_option autoImplicit false
namespace WW
open PySem PySem.Spec PyProof.Rows L2

/-! ### enumerate over a tuple -/
set_option maxHeartbeats 8000000 in
theorem enum_new1 {v : Value} {o : Obj} {H : Heap → Prop} (B : Begins v o H) :
    Meets (Builtin.«enumerate.__new__» ⟨[.type "enumerate", v], []⟩) (fun _ R s => H s.heap ∧
      R (.ok (.ret (.ref (s.heap.push o).objs.size))) { s with heap := (s.heap.push o).push { cls := .type "enumerate", data := .fields #[.none, .bool false, .ref s.heap.objs.size, rawInt 0, .none, .none] } }) :=
  .of_wp fun prog w A R s h => by
    obtain ⟨hp, g, d, tk, os⟩ := s; obtain ⟨h1, h⟩ := h
    have hsub := sub_enumerate
    have q1 : ∀ {A' : Around} {E : Value → Shared → Prop} {Q : Value → Shared → Prop}, Q (.ref hp.objs.size) ⟨hp.push o, g, d, tk, os⟩ → wpAny (model prog w) A' (pyIter v) Q E ⟨hp, g, d, tk, os⟩ :=
      fun q => B.iter prog w _ _ ⟨hp, g, d, tk, os⟩ _ h1 q
    wp_walk using q1
    refine wpAny_stack_any fun st => wpAny_pure ?_
    split
    · rename_i c _ _ _ _ _
      cases (c == Value.type "enumerate")
      · wp_walk using q1
        exact ⟨_, rfl, h⟩
      · wp_walk using q1
        exact ⟨_, rfl, h⟩
    · wp_walk using q1
      exact ⟨_, rfl, h⟩
section
variable {prog : Program} {w : World} {A : Around} {E : Value → Shared → Prop} {s : Shared}
theorem enum_begins1 {v : Value} {o : Obj} {H : Heap → Prop} {Q : Value → Shared → Prop} (B : Begins v o H) (h1 : H s.heap)
    (h : ∀ h', IsEnum h' (s.heap.objs.size + 1) s.heap.objs.size 0 .none → h'.get? s.heap.objs.size = some o → h'.objs.size = s.heap.objs.size + 2 →
      (∀ b o, s.heap.get? b = some o → h'.get? b = some o) → Q (.ref (s.heap.objs.size + 1)) { s with heap := h' }) :
    wpAny (model prog w) A (call (.type "enumerate") [v]) Q E s := by
  refine callType_new F.called_enumerate (by decide) (F.typeCall_enumerate_1 _) (F.newCall_enumerate_1 _) (fun obj => F.args_object_init_2 obj _) F.entry_enumerate_new
    (enum_new1 B) ⟨h1, ?_⟩
  have hz : (s.heap.push o).objs.size = s.heap.objs.size + 1 := Heap.size_push ..
  show _ ∧ _
  rw [hz]
  have he : IsEnum ((s.heap.push o).push { cls := .type "enumerate", data := .fields #[.none, .bool false, .ref s.heap.objs.size, rawInt 0, .none, .none] }) (s.heap.objs.size + 1) s.heap.objs.size 0 .none := by
    have := Heap.get?_push_size (s.heap.push o) (o := { cls := .type "enumerate", data := .fields #[.none, .bool false, .ref s.heap.objs.size, rawInt 0, .none, .none] }) rfl
    rw [hz] at this; exact this
  refine ⟨⟨_, he, rfl⟩, h _ he (Heap.get?_push_of_some _ (Heap.get?_push_size _ B.free)) (by rw [Heap.size_push, hz]) fun b o x => Heap.get?_push_of_some _ (Heap.get?_push_of_some _ x)⟩
end
/-- the tuple at a, each item in a new pair -/
def IteT (K : PySem.W.Frag) (a : Addr) : It :=
  ⟨fun i H => ∃ (xs : List V) (x : V), SqT K H a xs ∧ xs[i]? = some x, fun i H v H' => ∃ T x, v = .ref T ∧ H T = none ∧ H' = upd H T (.tup [.int (i : Nat), x]) ∧ ∀ xs, SqT K H a xs → xs[i]? = some x, fun i H => ∃ xs : List V, SqT K H a xs ∧ xs.length ≤ i⟩
theorem turn_enumT {P : Program} {w : World} {K : PySem.W.Frag} {elts : List Expr} {kk : Nat} {tpos : Pos} (a e it : Addr) :
    Turn P w K (.Tuple elts kk tpos) (IteT K a) [e, it] e (fun i h => (∃ old, IsEnum h e it ((i : Nat) : Int) old) ∧ h.IsTupleIter it a i ∧ e ≠ it) where
  mem := by simp
  obj := fun i h st b hb => by
    obtain ⟨⟨old, he⟩, ⟨o, ho, hc, hd⟩, _⟩ := st
    have e' : b = e ∨ b = it := by simpa using hb
    rcases e' with z | z
    · rw [z]; exact ⟨_, he, fun v q => nomatch q⟩
    · rw [z]; exact ⟨o, ho, fun v q => by rw [hd] at q; cases q⟩
  keep := fun i h h' st k => let ⟨⟨old, he⟩, hi, hne⟩ := st; ⟨⟨old, k e (by simp) _ he⟩, hi.at fun o q => k it (by simp) o q, hne⟩
  item := by
    intro X hP hw hK hc i pins s σ H E I hf st hg
    subst hP hw hK
    obtain ⟨⟨old, he⟩, hit, hne⟩ := st
    obtain ⟨xs, x, hq, hx⟩ := hg
    obtain ⟨its, rv, p, hz⟩ := I.tuple hq
    obtain ⟨u, hu, ru⟩ := rv.get hx
    have hel : e < s.heap.objs.size := Heap.lt_size he
    have hil : it < s.heap.objs.size := by obtain ⟨_, q, _⟩ := hit; exact Heap.lt_size q
    have pt : s.heap.IsTuple a its.toArray := p
    have hai : a ≠ it := by
      intro z
      obtain ⟨o1, q1, c1, d1⟩ := hit
      obtain ⟨o2, q2, c2, _⟩ := pt
      rw [z, q1] at q2
      cases q2
      rw [c1] at c2
      exact absurd c2 (by decide)
    have hea : e ∉ [it, a] := by
      intro z
      rcases List.mem_cons.mp z with z | z
      · exact hne z
      · rw [List.mem_singleton] at z
        obtain ⟨o2, q2, c2, _⟩ := pt
        rw [← z, he] at q2
        cases q2
        exact absurd c2 (by show ¬ Value.type "enumerate" = Value.type "tuple"; decide)
    have hlt : i < its.toArray.size := by
      have q := (List.getElem?_eq_some_iff.mp hu).1
      simpa using q
    refine wpAny_pyNext_enum_itemD (Draws.tuple (A := X.A.in1) (by rw [show X.A.in1.handled = none from I.ok.hd hc]) it a hai its.toArray) he ⟨hit, pt⟩ hlt hne hea fun x' h' tk hP' ho hst hT hsz hk => ?_
    have ex : x' = u := by
      have q : its.toArray[i]? = some u := by simpa using hu
      rw [q] at hP'
      exact (Option.some.inj hP').symm
    subst ex
    refine ⟨_, rfl, wpAny_letOwnedTupleGo_enum (s := { s with heap := h', toks := tk + 1 }) ho fun h'' he' sb => ?_⟩
    have hT2 : h''.get? s.heap.objs.size = some { cls := .type "tuple", data := .seq #[.int i tk, x'] } := (sb.2 _ (Nat.ne_of_gt hel)).trans hT
    have new : ObjOk X.prog X.w (upd H s.heap.objs.size (.tup [.int (i : Nat), x])) h'' s.heap.objs.size (.tup [.int (i : Nat), x]) :=
      ⟨by show 2 ≤ sizeLine; decide, [.int i tk, x'], .cons ⟨_, rfl⟩ (.cons ru .nil), ⟨_, hT2, rfl, _, rfl⟩⟩
    have I1 : Inv X pins σ (upd H s.heap.objs.size (.tup [.int (i : Nat), x])) { s with heap := h'', toks := tk + 1 } :=
      I.turnedNew (ch := [e, it]) (fun b ob hb q => (sb.2 b (fun z => hb (by simp [z]))).trans (hk b ob (fun z => hb (by simp [z])) (fun z => hb (by simp [z])) q)) hf (Nat.le_refl _) new
    refine ⟨.ref s.heap.objs.size, _, I1, rfl, ⟨_, x, rfl, I.hok.fresh (Nat.le_refl _), rfl, fun ys hy => by rw [I.tuple_inj hy hq]; exact hx⟩, ⟨⟨x', ?_⟩, hst.1.at fun o q => (sb.2 it (Ne.symm hne)).trans q, hne⟩, fun b hb => ?_⟩
    · have e1 : ((i + 1 : Nat) : Int) = (i : Int) + 1 := by omega
      rw [e1]; exact he'
    · have hb' : b < s.heap.objs.size := by
        have e' : b = e ∨ b = it := by simpa using hb
        rcases e' with z | z
        · rw [z]; exact hel
        · rw [z]; exact hil
      rw [upd_ne (Nat.ne_of_lt hb')]
      exact (hf b hb).1
  done := by
    intro X hP hw hK hc i pins s σ H E I hf st hg
    subst hP hw hK
    obtain ⟨⟨old, he⟩, hit, hne⟩ := st
    obtain ⟨xs, hq, hx⟩ := hg
    obtain ⟨its, rv, p, hz⟩ := I.tuple hq
    obtain ⟨f0, f1, f2, f3, f4, f5⟩ := hf it (by simp)
    have hl := rv.length
    have pt : s.heap.IsTuple a its.toArray := p
    have hai : a ≠ it := by
      intro z
      obtain ⟨o1, q1, c1, d1⟩ := hit
      obtain ⟨o2, q2, c2, _⟩ := pt
      rw [z, q1] at q2
      cases q2
      rw [c1] at c2
      exact absurd c2 (by decide)
    have e2 : its.toArray[i]? = none := by simp; omega
    have D : Draws X.prog X.w X.A.in1 it [it, a] i (fun _ _ => True) (fun j h => (h.IsTupleIter it a j ∧ h.IsTuple a its.toArray) ∧ i ≤ j) :=
      ⟨fun _ _ st => let ⟨o, ho, _⟩ := st.1.1; ⟨o, ho⟩, fun _ _ _ st hk => ⟨⟨st.1.1.at fun o e => hk it (by simp) o e, st.1.2.at fun o e => hk a (by simp) o e⟩, st.2⟩,
        fun j s Q E hj st hQ => absurd st.2 (Nat.not_le_of_gt hj), fun s Q E st hE => wpAny_nextOf_tuple_end (by rw [show X.A.in1.handled = none from I.ok.hd hc]) st.1.1 st.1.2 e2 hE⟩
    refine wpAny_pyNext_enum_endD D he ⟨⟨hit, pt⟩, Nat.le_refl _⟩ fun h' eb => ⟨rfl, I.turned (t' := s.toks) (fun b o hb q => eb b o hb q) f0 f1 f3 f4 f5⟩
  self := fun A i s Q E st h => let ⟨⟨_, he⟩, _⟩ := st; wpAny_pyIter_enum he h
/-- enumerate of a list or a tuple -/
def iEnumA (K : PySem.W.Frag) (ta : TA) : TI := fun σ H R => ta σ H fun vs H1 => (∃ a xs, vs = [.ref a] ∧ SqL K H1 a xs ∧ R (Ite K a) H1) ∨ (∃ a xs, vs = [.ref a] ∧ SqT K H1 a xs ∧ R (IteT K a) H1)
theorem pi_enumA {X : Cx} {e : Expr} {ta : TA} {p pos tpos : Pos} {elts : List Expr} {kk : Nat} (hg : Gl X "enumerate") (hm : X.mg "enumerate" = none) (ha : PA X [e] ta) (hs : starEach [e] X.env = [(false, eval e X.env)]) :
    PI X (.Tuple elts kk tpos) (.Call (.Name "enumerate" p) [e] [] pos) (iEnumA X.K ta) := by
  refine ⟨fun pins s σ H R I h => ?_⟩
  refine Call_ (ld_blt I hg hm boot_enumerate (PyProof.Rows.callWith_type1 (thn (ha.run pos pins s σ H _ I h) fun us s1 ⟨vs, H1, I1, r1, q1⟩ => ?_) hs rfl))
  have two : ∀ b, b ∈ [s1.heap.objs.size + 1, s1.heap.objs.size] → s1.heap.objs.size ≤ b := fun b hb => by
    have e' : b = s1.heap.objs.size + 1 ∨ b = s1.heap.objs.size := by simpa using hb
    rcases e' with z | z
    · rw [z]; exact Nat.le_add_right _ _
    · rw [z]; exact Nat.le_refl _
  rcases q1 with ⟨a, xs, ex, hq, q⟩ | ⟨a, xs, ex, hq, q⟩
  · subst ex
    cases r1 with
    | cons r rr =>
      cases rr
      cases r
      obtain ⟨its, rv, p', hz⟩ := I1.list hq
      refine call_enumerate_list p'.isList fun h' he hit hsz hk => wpAny_pyIter_enum he ?_
      have I2 : Inv X pins σ H1 { s1 with heap := h' } := I1.kept (t' := s1.toks) hk
      exact ⟨s1.heap.objs.size + 1, [s1.heap.objs.size + 1, s1.heap.objs.size], _, _, H1, rfl, I2, turn_enum a (s1.heap.objs.size + 1) s1.heap.objs.size, ⟨⟨.none, he⟩, hit, Nat.succ_ne_self _⟩, fun b hb => I1.fpOk (two b hb) (I1.hok.fresh (two b hb)), q⟩
  · subst ex
    cases r1 with
    | cons r rr =>
      cases rr
      cases r
      obtain ⟨its, rv, p', hz⟩ := I1.tuple hq
      refine enum_begins1 (begins_tuple a its.toArray) (show s1.heap.IsTuple a its.toArray from p') fun h' he hit hsz hk => wpAny_pyIter_enum he ?_
      have I2 : Inv X pins σ H1 { s1 with heap := h' } := I1.kept (t' := s1.toks) hk
      exact ⟨s1.heap.objs.size + 1, [s1.heap.objs.size + 1, s1.heap.objs.size], _, _, H1, rfl, I2, turn_enumT a (s1.heap.objs.size + 1) s1.heap.objs.size, ⟨⟨.none, he⟩, ⟨_, hit, rfl, rfl⟩, Nat.succ_ne_self _⟩, fun b hb => I1.fpOk (two b hb) (I1.hok.fresh (two b hb)), q⟩
end WW


set_option Elab.async false
set_option linter.all false
set_option maxRecDepth 100000
set_option maxHeartbeats 4000000
set_option autoImplicit false
namespace WW
open PySem PySem.Spec PyProof.Rows L2

section
variable {X : Cx} {tg : Expr} {p pos : Pos} {a b c : Expr} {wr : WA}
theorem rngD_iff {ds : List D} {Q : Src → Prop} (q : rngD ds Q) : (∃ j, ds = [.int j] ∧ (-(2 ^ 62) ≤ j ∧ j < 2 ^ 62) ∧ Q ⟨(List.range j.toNat).map fun k => .int ((0 : Int) + (k : Nat)), fun _ => True⟩) ∨
    (∃ i j, ds = [.int i, .int j] ∧ (-(2 ^ 62) ≤ i ∧ i < 2 ^ 62 ∧ -(2 ^ 62) ≤ j ∧ j < 2 ^ 62) ∧ Q ⟨(List.range (j - i).toNat).map fun k => .int (i + (k : Nat)), fun _ => True⟩) ∨
    (∃ i j c n, ds = [.int i, .int j, .int c] ∧ RgC i j c n ∧ Q ⟨(List.range n).map fun k => .int (i + (k : Nat) * c), fun _ => True⟩) := by
  unfold rngD at q
  split at q
  · exact .inl ⟨_, rfl, q⟩
  · exact .inr (.inl ⟨_, _, rfl, q⟩)
  · obtain ⟨n, q⟩ := q
    exact .inr (.inr ⟨_, _, _, n, rfl, q⟩)
  · exact q.elim
theorem rngD_mono {ds : List D} {Q Q' : Src → Prop} (h : ∀ s, Q s → Q' s) (q : rngD ds Q) : rngD ds Q' := by
  rcases rngD_iff q with ⟨j, rfl, c, q⟩ | ⟨i, j, rfl, c, q⟩ | ⟨i, j, c, n, rfl, g, q⟩
  · exact ⟨c, h _ q⟩
  · exact ⟨c, h _ q⟩
  · exact ⟨n, g, h _ q⟩
theorem wRng_mono (m : MonoA wr) : MonoI (wRng wr) := fun ρ S Q Q' h q => m _ _ _ _ (fun ds S1 q1 => rngD_mono (fun s => h s S1) q1) q
theorem repVs1 {K : KF} {H : Hp} {ι : List Addr} {i : Int} {vs : List V} (h : RepVs K H ι [.int i] vs) : vs = [.int i] := by
  obtain ⟨x, r, rfl, h1, h2⟩ := h
  cases h1
  cases h2
  rfl
theorem repVs2 {K : KF} {H : Hp} {ι : List Addr} {i j : Int} {vs : List V} (h : RepVs K H ι [.int i, .int j] vs) : vs = [.int i, .int j] := by
  obtain ⟨x, r, rfl, h1, h2⟩ := h
  cases h1
  rw [repVs1 h2]
theorem repVs3 {K : KF} {H : Hp} {ι : List Addr} {i j k : Int} {vs : List V} (h : RepVs K H ι [.int i, .int j, .int k] vs) : vs = [.int i, .int j, .int k] := by
  obtain ⟨x, r, rfl, h1, h2⟩ := h
  cases h1
  rw [repVs2 h2]
theorem pw_rng1 (hg : Gl X "range") (hm : X.mg "range" = none) (ha : PAw X [a] wr) (hw : ∀ ρ S Q, wr ρ S Q → wr ρ S fun ds S' => ds.length = 1 ∧ Q ds S') (hs : starEach [a] X.env = [(false, eval a X.env)]) : PIw X tg (.Call (.Name "range" p) [a] [] pos) (wRng wr) where
  mono := wRng_mono ha.mono
  pi := fun Y tk => PI.weak (pi_range1 hg hm (ha.pe Y tk) hs) fun σ H Q ⟨ρ, ι, S, E, R, q⟩ => tA_k ha.mono E R (hw _ _ _ q) fun ds S1 vs H1 ι1 T1 R1 rs E1 ⟨hl, q1⟩ => by
    rcases rngD_iff q1 with ⟨j, rfl, h, q⟩ | ⟨i, j, rfl, h, q⟩ | ⟨i, j, c, n, rfl, h, q⟩
    · rw [repVs1 rs]
      exact ⟨j, rfl, h.1, h.2, q _ H1 ι1 T1 R1 itok_rng⟩
    · simp at hl
    · simp at hl
theorem pw_rng2 (hg : Gl X "range") (hm : X.mg "range" = none) (ha : PAw X [a, b] wr) (hw : ∀ ρ S Q, wr ρ S Q → wr ρ S fun ds S' => ds.length = 2 ∧ Q ds S') (hs : starEach [a, b] X.env = [(false, eval a X.env), (false, eval b X.env)]) (hs2 : starEach [b] X.env = [(false, eval b X.env)]) : PIw X tg (.Call (.Name "range" p) [a, b] [] pos) (wRng wr) where
  mono := wRng_mono ha.mono
  pi := fun Y tk => PI.weak (pi_range2 hg hm (ha.pe Y tk) hs hs2) fun σ H Q ⟨ρ, ι, S, E, R, q⟩ => tA_k ha.mono E R (hw _ _ _ q) fun ds S1 vs H1 ι1 T1 R1 rs E1 ⟨hl, q1⟩ => by
    rcases rngD_iff q1 with ⟨j, rfl, h, q⟩ | ⟨i, j, rfl, h, q⟩ | ⟨i, j, c, n, rfl, h, q⟩
    · simp at hl
    · rw [repVs2 rs]
      exact ⟨i, j, rfl, h, q _ H1 ι1 T1 R1 itok_rng⟩
    · simp at hl
theorem pw_rng3 (hg : Gl X "range") (hm : X.mg "range" = none) (ha : PAw X [a, b, c] wr) (hw : ∀ ρ S Q, wr ρ S Q → wr ρ S fun ds S' => ds.length = 3 ∧ Q ds S') (hs : starEach [a, b, c] X.env = (false, eval a X.env) :: starEach [b, c] X.env) (hpl : (backTo pos (starEach [b, c] X.env)).any (·.1) = false) : PIw X tg (.Call (.Name "range" p) [a, b, c] [] pos) (wRng wr) where
  mono := wRng_mono ha.mono
  pi := fun Y tk => PI.weak (pi_range3 hg hm (ha.pe Y tk) hs hpl) fun σ H Q ⟨ρ, ι, S, E, R, q⟩ => tA_k ha.mono E R (hw _ _ _ q) fun ds S1 vs H1 ι1 T1 R1 rs E1 ⟨hl, q1⟩ => by
    rcases rngD_iff q1 with ⟨j, rfl, h, q⟩ | ⟨i, j, rfl, h, q⟩ | ⟨i, j, c, n, rfl, h, q⟩
    · simp at hl
    · simp at hl
    · rw [repVs3 rs]
      exact ⟨i, j, c, n, rfl, h, q _ H1 ι1 T1 R1 itok_rngC⟩

/-! ### enumerate of a list -/
def enumD : Nat → List D → List D
  | _, [] => []
  | k, d :: r => .tup [.int (k : Nat), d] :: enumD (k + 1) r
theorem enumD_get : ∀ (ds : List D) (k i : Nat), (enumD k ds)[i]? = ds[i]?.map fun d => .tup [.int ((k + i : Nat) : Int), d]
  | [], k, i => by simp [enumD]
  | d :: r, k, 0 => by simp [enumD]
  | d :: r, k, i + 1 => by
    show (enumD (k + 1) r)[i]? = _
    rw [enumD_get r (k + 1) i, List.getElem?_cons_succ]
    have e : k + 1 + i = k + (i + 1) := by omega
    rw [e]
theorem enumD_len : ∀ (ds : List D) (k : Nat), (enumD k ds).length = ds.length
  | [], _ => rfl
  | d :: r, k => by
    show (enumD (k + 1) r).length + 1 = r.length + 1
    rw [enumD_len r]
def enumSrc : D → Sto → (Src → Prop) → Prop
  | .ref n, S, Q => ∃ ds, S[n]? = some (.lst ds) ∧ Q ⟨enumD 0 ds, fun S' => S'[n]? = some (.lst ds)⟩
  | .fro ds, _, Q => Q ⟨enumD 0 ds, fun _ => True⟩
  | .tup ds, _, Q => Q ⟨enumD 0 ds, fun _ => True⟩
  | _, _, _ => False
def enum1 : List D → Sto → (Src → Prop) → Prop
  | [d], S, Q => enumSrc d S Q
  | _, _, _ => False
def wEnum (a : WA) : WI := fun ρ S Q => a ρ S fun ds S1 => enum1 ds S1 fun s => Q s S1
theorem itok_enum {K : KF} {H : Hp} {ι : List Addr} {a : Addr} {ds : List D} {st : Sto → Prop}
    (h : ∀ H1 ι1 S1, Tr H ι H1 ι1 → RepS K H1 ι1 S1 → st S1 → ∃ xs, SqL K.K H1 a xs ∧ RepVs K H1 ι1 ds xs) : ItOk K H ι (Ite K.K a) ⟨enumD 0 ds, st⟩ := fun i H1 ι1 S1 T R hs => by
  obtain ⟨xs, hq, r⟩ := h H1 ι1 S1 T R hs
  refine ⟨fun d hd => ?_, fun hl => ⟨xs, hq, by rw [← r.length, ← enumD_len ds 0]; exact hl⟩⟩
  rw [show (Src.mk (enumD 0 ds) st).items = enumD 0 ds from rfl, enumD_get] at hd
  cases q : ds[i]? with
  | none => rw [q] at hd; cases hd
  | some e =>
    rw [q] at hd
    cases hd
    obtain ⟨x, hx, rx⟩ := r.get q
    refine ⟨⟨xs, x, hq, hx⟩, fun y H' hy => ?_⟩
    obtain ⟨T', x', rfl, hT, rfl, f⟩ := hy
    have := f xs hq
    rw [hx] at this
    cases this
    refine ⟨Tr.new R hT, RepS.new R hT, T', _, rfl, upd_same, _, _, rfl, ?_, _, _, rfl, RepV.tr R (Tr.new R hT) _ _ rx, rfl⟩
    show V.int (i : Nat) = V.int ((0 + i : Nat) : Int)
    rw [Nat.zero_add]
theorem itok_enumT {K : KF} {H : Hp} {ι : List Addr} {a : Addr} {ds : List D} {xs : List V} (hx : H a = some (.tup xs)) (rs : RepVs K H ι ds xs) {S : Sto} (R0 : RepS K H ι S) : ItOk K H ι (IteT K.K a) ⟨enumD 0 ds, fun _ => True⟩ := fun i H1 ι1 S1 T R _ => by
  have r : RepVs K H1 ι1 ds xs := RepVs.tr R0 T _ _ rs
  have hq : SqT K.K H1 a xs := .inl (.inl (tup_tr R0 T hx))
  refine ⟨fun d hd => ?_, fun hl => ⟨xs, hq, by rw [← r.length, ← enumD_len ds 0]; exact hl⟩⟩
  rw [show (Src.mk (enumD 0 ds) (fun _ => True)).items = enumD 0 ds from rfl, enumD_get] at hd
  cases q : ds[i]? with
  | none => rw [q] at hd; cases hd
  | some e =>
    rw [q] at hd
    cases hd
    obtain ⟨x, hx, rx⟩ := r.get q
    refine ⟨⟨xs, x, hq, hx⟩, fun y H' hy => ?_⟩
    obtain ⟨T', x', rfl, hT, rfl, f⟩ := hy
    have := f xs hq
    rw [hx] at this
    cases this
    refine ⟨Tr.new R hT, RepS.new R hT, T', _, rfl, upd_same, _, _, rfl, ?_, _, _, rfl, RepV.tr R (Tr.new R hT) _ _ rx, rfl⟩
    show V.int (i : Nat) = V.int ((0 + i : Nat) : Int)
    rw [Nat.zero_add]
theorem enumSrc_mono {d : D} {S : Sto} {Q Q' : Src → Prop} (h : ∀ s, Q s → Q' s) (q : enumSrc d S Q) : enumSrc d S Q' := by
  cases d <;> first | exact q.elim | exact h _ q | exact let ⟨ds, a, b⟩ := q; ⟨ds, a, h _ b⟩
theorem pw_enum {elts : List Expr} {kk : Nat} {tpos : Pos} (hg : Gl X "enumerate") (hm : X.mg "enumerate" = none) (ha : PAw X [a] wr) (hs : starEach [a] X.env = [(false, eval a X.env)]) : PIw X (.Tuple elts kk tpos) (.Call (.Name "enumerate" p) [a] [] pos) (wEnum wr) where
  mono := fun ρ S Q Q' h q => ha.mono _ _ _ _ (fun ds S1 q1 => by
    match ds, q1 with
    | [d], q1 => exact enumSrc_mono (fun s => h s S1) q1) q
  pi := fun Y tk => PI.weak (pi_enumA hg hm (ha.pe Y tk) hs) fun σ H Q ⟨ρ, ι, S, E, R, q⟩ => tA_k ha.mono E R q fun ds S1 vs H1 ι1 T1 R1 rs E1 q1 => by
    match ds, q1 with
    | [d], q1 =>
      obtain ⟨v, r, rfl, rv, rr⟩ := rs
      cases rr
      cases d <;> try exact q1.elim
      · rename_i ds
        obtain ⟨a, xs, rfl, hx, rr⟩ := rv
        exact .inr ⟨a, xs, rfl, .inl (.inl hx), q1 _ H1 ι1 T1 R1 (itok_enumT hx rr R1)⟩
      · rename_i ds
        obtain ⟨a, xs, rfl, hx, rr⟩ := rv
        exact .inl ⟨a, xs, rfl, hx.sq, q1 _ H1 ι1 T1 R1 (itok_enum fun H2 ι2 S2 T R2 _ => ⟨xs, (SqK.tr R1 T hx).sq, RepVs.tr R1 T _ _ rr⟩)⟩
      · rename_i n
        obtain ⟨ds, e, q1⟩ := q1
        obtain ⟨a, xs, rfl, hi, hx, rr⟩ := R1.list rv e
        refine .inl ⟨a, xs, rfl, .inl (.inl hx), q1 _ H1 ι1 T1 R1 (itok_enum fun H2 ι2 S2 T R2 st => ?_)⟩
        obtain ⟨_, e1, ys, rfl, r1⟩ := R2.ob n a _ (T.get hi) st
        exact ⟨ys, .inl (.inl e1), r1⟩
end

/-! ### statements -/
def MonoS (w : WS) : Prop := ∀ ρ S (k k' : KK), k'.ex = k.ex → (∀ ρ S, k.nx ρ S → k'.nx ρ S) → (∀ d S, k.rt d S → k'.rt d S) → (∀ ρ S, k.bk ρ S → k'.bk ρ S) → (∀ ρ S, k.ct ρ S → k'.ct ρ S) → w k ρ S → w k' ρ S
theorem en_eq {k k' : KK} (e : k'.ex = k.ex) (ρ : Rho) : k'.en ρ = k.en ρ := by
  unfold KK.en
  rw [e]
def EnS (K : KF) (H : Hp) (ι : List Addr) (P : Rho → Sto → Prop) (D : L2.St → Hp → Prop) : Prop := ∀ ρ S σ H' ι', Tr H ι H' ι' → RepS K H' ι' S → RepR K H' ι' σ ρ → P ρ S → D σ H'
def EnR (K : KF) (H : Hp) (ι : List Addr) (P : Q1) (D : VK) : Prop := ∀ d S v H' ι', Tr H ι H' ι' → RepS K H' ι' S → RepV K H' ι' d v → P d S → D v H'
def EnE (K : KF) (Y : WX) (H : Hp) (ι : List Addr) (x : XE) : Prop := ∀ c fs ρ S σ H' ι' cls d, Tr H ι H' ι' → RepS K H' ι' S → RepR K H' ι' σ ρ → XRep K H' ι' c fs cls d → x c fs ρ S → Y cls d σ H'
structure Ed (K : KF) (Y : WX) (H : Hp) (ι : List Addr) (k : KK) (E : Ends) : Prop where
  nx : EnS K H ι k.nx E.nx
  rt : EnR K H ι k.rt E.rt
  bk : EnS K H ι k.bk E.bk
  ct : EnS K H ι k.ct E.ct
  ex : EnE K Y H ι k.ex
def tS (K : KF) (Y : WX) (w : WS) : TS := fun E σ H => ∃ k ρ ι S, RepR K H ι σ ρ ∧ RepS K H ι S ∧ Ed K Y H ι k E ∧ w k ρ S
structure PSw (X : Cx) (st : Stmt) (w : WS) : Prop where
  mono : MonoS w
  ps : ∀ Y, Takes X Y → PS X st (tS (kf X) Y w)
structure PBw (X : Cx) (sts : List Stmt) (w : WS) : Prop where
  mono : MonoS w
  ps : ∀ Y, Takes X Y → PSs X sts (tS (kf X) Y w)
theorem PS.weak {X : Cx} {st : Stmt} {t t' : TS} (h : PS X st t) (w : ∀ E σ H, t' E σ H → t E σ H) : PS X st t' := ⟨fun pins s σ H E I q => h.run pins s σ H E I (w E σ H q)⟩
theorem PSs.weak {X : Cx} {st : List Stmt} {t t' : TS} (h : PSs X st t) (w : ∀ E σ H, t' E σ H → t E σ H) : PSs X st t' := ⟨fun pins s σ H E I q => h.run pins s σ H E I (w E σ H q)⟩
theorem PS.or {X : Cx} {st : Stmt} {t t' : TS} (h : PS X st t) (g : PS X st t') : PS X st (fun E σ H => t E σ H ∨ t' E σ H) := ⟨fun pins s σ H E I q => q.elim (h.run pins s σ H E I) (g.run pins s σ H E I)⟩
theorem PE.or {X : Cx} {e : Expr} {t t' : TE} (h : PE X e t) (g : PE X e t') : PE X e (fun σ H Q => t σ H Q ∨ t' σ H Q) := ⟨fun pins s σ H Q I q => q.elim (h.run pins s σ H Q I) (g.run pins s σ H Q I)⟩
section
variable {K : KF} {H H' : Hp} {ι ι' : List Addr} {k : KK} {E : Ends}
theorem EnS.tr {P : Rho → Sto → Prop} {D : L2.St → Hp → Prop} (h : EnS K H ι P D) (T : Tr H ι H' ι') : EnS K H' ι' P D := fun ρ S σ H2 ι2 T2 R E p => h ρ S σ H2 ι2 (T.trans T2) R E p
theorem EnR.tr {P : Q1} {D : VK} (h : EnR K H ι P D) (T : Tr H ι H' ι') : EnR K H' ι' P D := fun ρ S σ H2 ι2 T2 R E p => h ρ S σ H2 ι2 (T.trans T2) R E p
theorem EnE.tr {Y : WX} {x : XE} (h : EnE K Y H ι x) (T : Tr H ι H' ι') : EnE K Y H' ι' x := fun c fs ρ S σ H2 ι2 cls d T2 => h c fs ρ S σ H2 ι2 cls d (T.trans T2)
theorem Ed.tr {Y : WX} (h : Ed K Y H ι k E) (T : Tr H ι H' ι') : Ed K Y H' ι' k E := ⟨h.nx.tr T, h.rt.tr T, h.bk.tr T, h.ct.tr T, h.ex.tr T⟩
theorem Ed.en {Y : WX} {σ : L2.St} {ρ : Rho} {S : Sto} (h : Ed K Y H ι k E) (R : RepS K H ι S) (r : RepR K H ι σ ρ) : RepE K Y H ι σ (k.en ρ) :=
  ⟨r, fun c fs S' H' ι' cls d T R' xr q => h.ex c fs ρ S' σ H' ι' cls d T R' (r.tr R T) xr q⟩
end
def wAsg (i : Nat) (w : W) : WS := fun k ρ S => w (k.en ρ) S fun d S1 => k.nx (putR ρ i (some d)) S1
def wAsgP (p : Pat) (w : W) : WS := fun k ρ S => w (k.en ρ) S fun d S1 => gv (bindQ p d S1 ρ) fun ρ' => k.nx ρ' S1
/-- the store behind d[y] = v -/
def dPut (n : Nat) (y v : D) (S : Sto) (Q : Sto → Prop) : Prop :=
  (∃ kvs k, S[n]? = some (.dK false kvs) ∧ keyD y = some k ∧ kvs.length < sizeLine ∧ Q (S.set n (.dK false (putA kvs k v)))) ∨ ∃ kvs k, S[n]? = some (.dT false kvs) ∧ keyT y = some k ∧ kvs.length < sizeLine ∧ Q (S.set n (.dT false (putA kvs k v)))
def setD : D → D → D → Sto → (Sto → Prop) → Prop
  | .ref n, y, v, S, Q => (∃ ds i, y = .int i ∧ S[n]? = some (.lst ds) ∧ gv (ixN ds.length i) fun j => Q (S.set n (.lst (ds.set j v)))) ∨ dPut n y v S Q
  | _, _, _, _, _ => False
theorem setD_mono {x y v : D} {S : Sto} {Q Q' : Sto → Prop} (h : ∀ S, Q S → Q' S) (q : setD x y v S Q) : setD x y v S Q' := by
  cases x <;> try exact q.elim
  rcases q with ⟨ds, i, e0, e1, z⟩ | ⟨kvs, k, a, b, c, d⟩ | ⟨kvs, k, a, b, c, d⟩
  · obtain ⟨j, e2, z⟩ := gv_iff.mp z
    exact .inl ⟨ds, i, e0, e1, gv_iff.mpr ⟨j, e2, h _ z⟩⟩
  · exact .inr (.inl ⟨kvs, k, a, b, c, h _ d⟩)
  · exact .inr (.inr ⟨kvs, k, a, b, c, h _ d⟩)
def wSet (o i v : W) : WS := fun k ρ S => v (k.en ρ) S fun y S1 => o (k.en ρ) S1 fun x S2 => i (k.en ρ) S2 fun z S3 => setD x z y S3 fun S4 => k.nx ρ S4
def wDrop (w : W) : WS := fun k ρ S => w (k.en ρ) S fun _ S1 => k.nx ρ S1
def wRet (w : W) : WS := fun k ρ S => w (k.en ρ) S k.rt
def wRetN : WS := fun k _ S => k.rt .non S
def wBrk : WS := fun k ρ S => k.bk ρ S
def wCnt : WS := fun k ρ S => k.ct ρ S
def wPas : WS := fun k ρ S => k.nx ρ S
def wSq (a b : WS) : WS := fun k ρ S => a { k with nx := b k } ρ S
def wIfS (t : WT) (a b : WS) : WS := fun k ρ S => t (k.en ρ) S fun c S1 => if c = true then a k ρ S1 else b k ρ S1
def wIt (t : WT) (b : WS) (k : KK) : Nat → Rho → Sto → Prop
  | 0, _, _ => False
  | m + 1, ρ, S => t (k.en ρ) S fun c S1 => if c = true then b { k with nx := wIt t b k m, ct := wIt t b k m, bk := k.nx } ρ S1 else k.nx ρ S1
def wWhl (t : WT) (b : WS) : WS := fun k ρ S => ∃ m, wIt t b k m ρ S
def forGo (st : Sto → Prop) (p : Pat) (b : WS) (k : KK) : List D → Rho → Sto → Prop
  | [], ρ, S => st S ∧ k.nx ρ S
  | d :: r, ρ, S => st S ∧ gv (bindP p d ρ) fun ρ' => b { k with nx := forGo st p b k r, ct := forGo st p b k r, bk := k.nx } ρ' S
def wFor (wi : WI) (p : Pat) (b : WS) : WS := fun k ρ S => wi (k.en ρ) S fun s S1 => forGo s.stab p b k s.items ρ S1
section
variable {X : Cx} {e c : Expr} {w : W} {pos : Pos} {u t : WS}
theorem pw_ret (h : PEw X e w) : PSw X (.Return (some e) pos) (wRet w) where
  mono := fun ρ S k k' e h1 h2 h3 h4 q => by
    show w (k'.en ρ) S k'.rt
    rw [en_eq e]
    exact h.mono _ _ _ _ h2 q
  ps := fun Y tk => PS.weak (ps_ret (h.pe Y tk)) fun E σ H ⟨k, ρ, ι, S, Er, R, D, q⟩ => tE_k h.mono (D.en R Er) R q fun d S1 v H1 ι1 T1 R1 r E1 q1 => D.rt d S1 v H1 ι1 T1 R1 r q1
theorem pw_retN : PSw X (.Return none pos) wRetN where
  mono := fun ρ S k k' e h1 h2 h3 h4 q => h2 _ _ q
  ps := fun Y tk => PS.weak ps_retN fun E σ H ⟨k, ρ, ι, S, Er, R, D, q⟩ => D.rt .non S .non H ι (Tr.refl _ _) R rfl q
theorem pw_drop (h : PEw X e w) (hs : swapsWith e none pos.line X.env = pure false) : PSw X (.Expr e pos) (wDrop w) where
  mono := fun ρ S k k' e h1 h2 h3 h4 q => by
    show w (k'.en ρ) S _
    rw [en_eq e]
    exact h.mono _ _ _ _ (fun d S' z => h1 _ _ z) q
  ps := fun Y tk => PS.weak (ps_expr (h.pe Y tk) hs) fun E σ H ⟨k, ρ, ι, S, Er, R, D, q⟩ => tE_k h.mono (D.en R Er) R q fun d S1 v H1 ι1 T1 R1 r E1 q1 => D.nx ρ S1 σ H1 ι1 T1 R1 E1.r q1
theorem pw_brk : PSw X (.Break pos) wBrk where
  mono := fun ρ S k k' e h1 h2 h3 h4 q => h3 _ _ q
  ps := fun Y tk => PS.weak ps_break fun E σ H ⟨k, ρ, ι, S, Er, R, D, q⟩ => D.bk ρ S σ H ι (Tr.refl _ _) R Er q
theorem pw_cnt : PSw X (.Continue pos) wCnt where
  mono := fun ρ S k k' e h1 h2 h3 h4 q => h4 _ _ q
  ps := fun Y tk => PS.weak ps_continue fun E σ H ⟨k, ρ, ι, S, Er, R, D, q⟩ => D.ct ρ S σ H ι (Tr.refl _ _) R Er q
theorem pw_pas : PSw X (.Pass pos) wPas where
  mono := fun ρ S k k' e h1 h2 h3 h4 q => h1 _ _ q
  ps := fun Y tk => PS.weak ps_pass fun E σ H ⟨k, ρ, ι, S, Er, R, D, q⟩ => D.nx ρ S σ H ι (Tr.refl _ _) R Er q
theorem pw_sNil : PBw X [] wPas where
  mono := fun ρ S k k' e h1 h2 h3 h4 q => h1 _ _ q
  ps := fun Y tk => PSs.weak pss_nil fun E σ H ⟨k, ρ, ι, S, Er, R, D, q⟩ => D.nx ρ S σ H ι (Tr.refl _ _) R Er q
theorem pw_sOne {st : Stmt} (h : PSw X st u) : PBw X [st] u := ⟨h.mono, fun Y tk => pss_one (h.ps Y tk)⟩
theorem pw_sCons {st : Stmt} {r : List Stmt} (h : PSw X st u) (g : PBw X r t) : PBw X (st :: r) (wSq u t) where
  mono := fun ρ S k k' e h1 h2 h3 h4 q => h.mono ρ S { k with nx := t k } { k' with nx := t k' } e (fun ρ S z => g.mono _ _ _ _ e h1 h2 h3 h4 z) h2 h3 h4 q
  ps := fun Y tk => PSs.weak (pss_cons (h.ps Y tk) (g.ps Y tk)) fun E σ H ⟨k, ρ, ι, S, Er, R, D, q⟩ =>
    ⟨{ k with nx := t k }, ρ, ι, S, Er, R, ⟨fun ρ1 S1 σ1 H1 ι1 T1 R1 E1 q1 => ⟨k, ρ1, ι1, S1, E1, R1, D.tr T1, q1⟩, D.rt, D.bk, D.ct, D.ex⟩, q⟩
theorem pw_ifS {a b : List Stmt} {wt : WT} (hc : PTw X c wt) (ha : PBw X a u) (hb : PBw X b t) : PSw X (.If c a b pos) (wIfS wt u t) where
  mono := fun ρ S k k' e h1 h2 h3 h4 q => by
    show wt (k'.en ρ) S _
    rw [en_eq e]
    refine hc.mono _ _ _ _ (fun d S' z => ?_) q
    cases d with
    | true => exact ha.mono _ _ _ _ e h1 h2 h3 h4 z
    | false => exact hb.mono _ _ _ _ e h1 h2 h3 h4 z
  ps := fun Y tk => PS.weak (ps_if (hc.pe Y tk) (ha.ps Y tk) (hb.ps Y tk)) fun E σ H ⟨k, ρ, ι, S, Er, R, D, q⟩ => tT_k hc.mono (D.en R Er) R q fun d S1 H1 ι1 T1 R1 E1 q1 => by
    cases d with
    | true => exact ⟨k, ρ, ι1, S1, E1.r, R1, D.tr T1, q1⟩
    | false => exact ⟨k, ρ, ι1, S1, E1.r, R1, D.tr T1, q1⟩
theorem pw_asg {i : Nat} {x : Str} {pos' : Pos} (hN : X.N.Nodup) (hi : X.N[i]? = some x) (hx : Loc X.env.scope x) (h : PEw X e w) (hs : swapsWith e (some (.Name x pos')) pos.line X.env = pure false) (hf : X.fn x = true ∨ X.env.scope.names.lookup x = some .local) :
    PSw X (.Assign [.Name x pos'] e pos) (wAsg i w) where
  mono := fun ρ S k k' e h1 h2 h3 h4 q => by
    show w (k'.en ρ) S _
    rw [en_eq e]
    exact h.mono _ _ _ _ (fun d S' z => h1 _ _ z) q
  ps := fun Y tk => PS.weak (ps_set hN hi hx (h.pe Y tk) hs hf) fun E σ H ⟨k, ρ, ι, S, Er, R, D, q⟩ => tE_k h.mono (D.en R Er) R q fun d S1 v H1 ι1 T1 R1 r E1 q1 => D.nx _ S1 _ H1 ι1 T1 R1 (E1.r.put r) q1
theorem wAsgP_mono {p : Pat} (h : MonoW w) : MonoS (wAsgP p w) := fun ρ S k k' e h1 h2 h3 h4 q => by
  show w (k'.en ρ) S _
  rw [en_eq e]
  refine h _ _ _ _ (fun d S' z => ?_) q
  obtain ⟨ρ', e, z⟩ := gv_iff.mp z
  exact gv_iff.mpr ⟨ρ', e, h1 _ _ z⟩
theorem pw_asgP {tg : Expr} {p : Pat} (hg : PG X tg (gQ X.K p)) (h : PEw X e w) (hs : swapsWithSole [tg] e pos.line X.env = pure false) (hw : swappedStores [tg] e X.env = pure none)
    (h1 : (assignEach [tg] X.env).map (·.2) = [assign tg X.env]) : PSw X (.Assign [tg] e pos) (wAsgP p w) where
  mono := wAsgP_mono h.mono
  ps := fun Y tk => PS.weak (ps_asg (h.pe Y tk) hg hs hw h1) fun E σ H ⟨k, ρ, ι, S, Er, R, D, q⟩ => tE_k h.mono (D.en R Er) R q fun d S1 v H1 ι1 T1 R1 r E1 q1 => by
    obtain ⟨ρ', e, q2⟩ := gv_iff.mp q1
    exact bindQ_S (K := kf X) e R1 E1.r r fun σ' E' _ => D.nx ρ' S1 σ' H1 ι1 T1 R1 E' q2
def rSetDct : TSet := fun o i v H Q => ∃ a H', o = .ref a ∧ DPut H a i v H' ∧ Q H'
theorem set_dct (hu : X.A.units + 1 < cLine) : PSet X rSetDct := by
  intro pins s σ H o i v ov iv u Q I ro ri rv h
  obtain ⟨a, H', rfl, g, q⟩ := h
  obtain rfl : ov = Value.ref a := ro
  exact d_setItem hu I g ri rv fun s' I' => ⟨H', I', q⟩
theorem PSet.or {r r' : TSet} (h : PSet X r) (h' : PSet X r') : PSet X (fun o i v H Q => r o i v H Q ∨ r' o i v H Q) := by
  intro pins s σ H o i v ov iv u Q I ro ri rv q
  rcases q with q | q
  · exact h pins s σ H o i v ov iv u Q I ro ri rv q
  · exact h' pins s σ H o i v ov iv u Q I ro ri rv q
theorem pw_setS {o ix : Expr} {wo wi : W} {spos : Pos} (hu : X.A.units + 1 < cLine) (ho : PEw X o wo) (hi : PEw X ix wi) (h : PEw X e w)
    (ha : ∀ v, assign (.Subscript o ix spos) X.env v = (do
      let ov ← holding [v] (eval o X.env)
      let iv ← holding [v, ov] (eval ix X.env)
      standAt spos
      holding [v, ov, iv] (setItem ov iv v)
      release [v, ov, iv] []))
    (hs : swapsWithSole [.Subscript o ix spos] e pos.line X.env = pure false) (hw : swappedStores [.Subscript o ix spos] e X.env = pure none)
    (h1 : (assignEach [.Subscript o ix spos] X.env).map (·.2) = [assign (.Subscript o ix spos) X.env]) : PSw X (.Assign [.Subscript o ix spos] e pos) (wSet wo wi w) where
  mono := fun ρ S k k' e h1 h2 h3 h4 q => by
    show w (k'.en ρ) S _
    rw [en_eq e]
    exact h.mono _ _ _ _ (fun d S' z => ho.mono _ _ _ _ (fun x S2 z => hi.mono _ _ _ _ (fun y S3 z => setD_mono (fun S4 => h1 _ _) z) z) z) q
  ps := fun Y tk => PS.weak (ps_asg (h.pe Y tk) (pg_sub (ho.pe Y tk) (hi.pe Y tk) (PSet.or set_list (set_dct hu)) ha) hs hw h1) fun E σ H ⟨k, ρ, ι, S, Er, R, D, q⟩ => tE_k h.mono (D.en R Er) R q fun d S1 v H1 ι1 T1 R1 r E1 q1 =>
    tE_k ho.mono E1 R1 q1 fun x S2 vx H2 ι2 T2 R2 rx E2 q2 => tE_k hi.mono E2 R2 q2 fun y S3 vy H3 ι3 T3 R3 ry E3 q3 => by
      cases x <;> try exact q3.elim
      have rd := RepV.tr R2 T3 _ _ (RepV.tr R1 T2 _ _ r)
      have T123 := (T1.trans T2).trans T3
      rcases q3 with ⟨ds, i, rfl, e1, q4⟩ | ⟨kvs, kk, e1, e2, e3, q4⟩ | ⟨kvs, kk, e1, e2, e3, q4⟩
      · cases ry
        obtain ⟨j, e2, q5⟩ := gv_iff.mp q4
        obtain ⟨a, xs, rfl, hi, hx, rr⟩ := R3.list (RepV.tr R2 T3 _ _ rx) e1
        have hn := RepVs.set j rr rd
        exact .inl ⟨a, xs, i, j, rfl, rfl, hx, by rw [← rr.length]; exact e2, D.nx ρ _ σ _ ι3 (T123.trans (Tr.write R3 hi (nfz hx))) (RepS.write R3 hi hn) (E3.r.tr R3 (Tr.write R3 hi (nfz hx))) q5⟩
      · obtain ⟨a, o, rfl, hi, hx, xs, hz, rr⟩ := R3.obj (RepV.tr R2 T3 _ _ rx) e1
        cases (show o = .dK xs from hz)
        refine .inr ⟨a, _, rfl, .inl ⟨xs, kk, hx, keyD_V ry e2, by rw [← rr.length]; exact e3, rfl⟩, ?_⟩
        exact D.nx ρ _ σ _ ι3 (T123.trans (Tr.write R3 hi (nfz hx))) (R3.writeO (u := .dK false (putA kvs kk d)) hi ⟨_, rfl, rr.put rd⟩) (E3.r.tr R3 (Tr.write R3 hi (nfz hx))) q4
      · obtain ⟨a, o, rfl, hi, hx, xs, hz, rr⟩ := R3.obj (RepV.tr R2 T3 _ _ rx) e1
        cases (show o = .dT xs from hz)
        obtain ⟨b, h5, h6⟩ := keyT_V ry e2
        refine .inr ⟨a, _, rfl, .inr ⟨xs, kk, b, hx, h5, h6, by rw [← rr.length]; exact e3, rfl⟩, ?_⟩
        exact D.nx ρ _ σ _ ι3 (T123.trans (Tr.write R3 hi (nfz hx))) (R3.writeO (u := .dT false (putA kvs kk d)) hi ⟨_, rfl, rr.put rd⟩) (E3.r.tr R3 (Tr.write R3 hi (nfz hx))) q4
theorem wIt_mono {wt : WT} (hc : MonoT wt) (hb : MonoS u) : ∀ (m m' : Nat) (k k' : KK) ρ S, m ≤ m' → k'.ex = k.ex → (∀ ρ S, k.nx ρ S → k'.nx ρ S) → (∀ d S, k.rt d S → k'.rt d S) → wIt wt u k m ρ S → wIt wt u k' m' ρ S
  | 0, _, _, _, _, _, _, _, _, _, q => q.elim
  | m + 1, 0, _, _, _, _, h, _, _, _, _ => absurd h (by omega)
  | m + 1, m' + 1, k, k', ρ, S, h, e, h1, h2, q => by
    show wt (k'.en ρ) S _
    rw [en_eq e]
    refine hc _ _ _ _ (fun d S' z => ?_) q
    cases d with
    | true => exact hb _ _ { k with nx := wIt wt u k m, ct := wIt wt u k m, bk := k.nx } { k' with nx := wIt wt u k' m', ct := wIt wt u k' m', bk := k'.nx } e (fun ρ S z => wIt_mono hc hb m m' k k' ρ S (by omega) e h1 h2 z) h2 h1 (fun ρ S z => wIt_mono hc hb m m' k k' ρ S (by omega) e h1 h2 z) z
    | false => exact h1 _ _ z
theorem pw_whl {body : List Stmt} {wt : WT} (hp : PassesOwn (model X.prog X.w) X.A X.env X.xe) (hc : PTw X c wt) (hb : PBw X body u) : PSw X (.While c body [] pos) (wWhl wt u) where
  mono := fun ρ S k k' e h1 h2 h3 h4 ⟨m, q⟩ => ⟨m, wIt_mono hc.mono hb.mono m m k k' ρ S (Nat.le_refl _) e h1 h2 q⟩
  ps := fun Y tk => PS.weak (ps_while hp (hc.pe Y tk) (hb.ps Y tk)) fun E σ H ⟨k, ρ, ι, S, Er, R, D, m, q⟩ => by
    refine ⟨fun m σ' H' => ∃ ρ' ι' S', RepR (kf X) H' ι' σ' ρ' ∧ RepS (kf X) H' ι' S' ∧ Tr H ι H' ι' ∧ wIt wt u k m ρ' S', ⟨m, ρ, ι, S, Er, R, Tr.refl _ _, q⟩, fun m σ' H' ⟨ρ', ι', S', E', R', T', q'⟩ => ?_⟩
    cases m with
    | zero => exact q'.elim
    | succ m =>
      refine tT_k hc.mono ((D.tr T').en R' E') R' q' fun d S1 H1 ι1 T1 R1 E1 q1 => ?_
      cases d with
      | false => exact D.nx ρ' S1 σ' H1 ι1 (T'.trans T1) R1 E1.r q1
      | true =>
        show ∃ N : L2.St → Hp → Prop, _
        refine ⟨fun σ2 H2 => ∃ ρ2 ι2 S2, RepR (kf X) H2 ι2 σ2 ρ2 ∧ RepS (kf X) H2 ι2 S2 ∧ Tr H ι H2 ι2 ∧ wIt wt u k m ρ2 S2, fun σ2 H2 z => ⟨m, Nat.lt_succ_self m, z⟩, ?_⟩
        refine ⟨{ k with nx := wIt wt u k m, ct := wIt wt u k m, bk := k.nx }, ρ', ι1, S1, E1.r, R1, ⟨?_, ?_, ?_, ?_, D.ex.tr (T'.trans T1)⟩, q1⟩
        · exact fun ρ2 S2 σ2 H2 ι2 T2 R2 E2 q2 => ⟨ρ2, ι2, S2, E2, R2, (T'.trans T1).trans T2, q2⟩
        · exact fun d2 S2 v2 H2 ι2 T2 R2 r2 q2 => D.rt d2 S2 v2 H2 ι2 ((T'.trans T1).trans T2) R2 r2 q2
        · exact fun ρ2 S2 σ2 H2 ι2 T2 R2 E2 q2 => D.nx ρ2 S2 σ2 H2 ι2 ((T'.trans T1).trans T2) R2 E2 q2
        · exact fun ρ2 S2 σ2 H2 ι2 T2 R2 E2 q2 => ⟨ρ2, ι2, S2, E2, R2, (T'.trans T1).trans T2, q2⟩
theorem forGo_mono {st : Sto → Prop} {p : Pat} (hb : MonoS u) : ∀ (ds : List D) (k k' : KK) ρ S, k'.ex = k.ex → (∀ ρ S, k.nx ρ S → k'.nx ρ S) → (∀ d S, k.rt d S → k'.rt d S) → forGo st p u k ds ρ S → forGo st p u k' ds ρ S
  | [], _, _, _, _, _, h1, _, q => ⟨q.1, h1 _ _ q.2⟩
  | d :: r, k, k', ρ, S, ee, h1, h2, ⟨q1, q2⟩ => by
    obtain ⟨ρ', e, q⟩ := gv_iff.mp q2
    exact ⟨q1, gv_iff.mpr ⟨ρ', e, hb _ _ { k with nx := forGo st p u k r, ct := forGo st p u k r, bk := k.nx } { k' with nx := forGo st p u k' r, ct := forGo st p u k' r, bk := k'.nx } ee (fun ρ S z => forGo_mono hb r k k' ρ S ee h1 h2 z) h2 h1 (fun ρ S z => forGo_mono hb r k k' ρ S ee h1 h2 z) q⟩⟩
theorem forGo_st {st : Sto → Prop} {p : Pat} {k : KK} {ds : List D} {ρ : Rho} {S : Sto} (q : forGo st p u k ds ρ S) : st S := by
  cases ds <;> exact q.1
/-- the loop over what a walk J yields -/
def forJ (g : TG) (tb : TS) (D : Ends) (J : It) (σ : L2.St) (H1 : Hp) : Prop := ∃ W : Nat → Nat → L2.St → Hp → Prop, (∃ m, W 0 m σ H1) ∧ ∀ i m σ H, W i m σ H →
  (J.stop i H ∧ D.nx σ H) ∨ (J.go i H ∧ ∃ N : L2.St → Hp → Prop, (∀ σ' H', N σ' H' → ∃ m', m' < m ∧ W (i + 1) m' σ' H') ∧ ∀ x H', J.yld i H x H' → g x σ H' fun σ2 H2 => tb { D with nx := N, ct := N, bk := D.nx } σ2 H2)
theorem for_core {Y : WX} {E : Ends} {k : KK} {ρ : Rho} {σ : L2.St} {p : Pat} {s : Src} {J : It} {H1 : Hp} {ι1 : List Addr} {S1 : Sto}
    (D : Ed (kf X) Y H1 ι1 k E) (Er : RepR (kf X) H1 ι1 σ ρ) (R1 : RepS (kf X) H1 ι1 S1) (ok : ItOk (kf X) H1 ι1 J s) (q1 : forGo s.stab p u k s.items ρ S1) : forJ (gP X.K p) (tS (kf X) Y u) E J σ H1 := by
  refine ⟨fun i m σ' H' => i + m = s.items.length ∧ ∃ ρ' ι' S', RepR (kf X) H' ι' σ' ρ' ∧ RepS (kf X) H' ι' S' ∧ Tr H1 ι1 H' ι' ∧ forGo s.stab p u k (s.items.drop i) ρ' S',
    ⟨s.items.length, Nat.zero_add _, ρ, ι1, S1, Er, R1, Tr.refl _ _, q1⟩, fun i m σ' H' ⟨hm, ρ', ι', S', E', R', T', q'⟩ => ?_⟩
  have hst := forGo_st q'
  obtain ⟨o1, o2⟩ := ok i H' ι' S' T' R' hst
  by_cases hl : s.items.length ≤ i
  · left
    rw [List.drop_of_length_le hl] at q'
    exact ⟨o2 hl, D.nx ρ' S' σ' H' ι' T' R' E' q'.2⟩
  · right
    have hl' : i < s.items.length := Nat.lt_of_not_le hl
    have e1 : s.items[i]? = some s.items[i] := List.getElem?_eq_getElem hl'
    obtain ⟨g1, g2⟩ := o1 _ e1
    rw [List.drop_eq_getElem_cons hl'] at q'
    refine ⟨g1, fun σ2 H2 => ∃ ρ2 ι2 S2, RepR (kf X) H2 ι2 σ2 ρ2 ∧ RepS (kf X) H2 ι2 S2 ∧ Tr H1 ι1 H2 ι2 ∧ forGo s.stab p u k (s.items.drop (i + 1)) ρ2 S2, fun σ2 H2 z => ⟨m - 1, by omega, by omega, z⟩, fun x H2 hy => ?_⟩
    obtain ⟨T2, R2, rx⟩ := g2 x H2 hy
    obtain ⟨ρ2, e2, q2⟩ := gv_iff.mp q'.2
    refine bindP_S (K := kf X) e2 (E'.tr R' T2) rx fun σ3 E3 _ => ?_
    refine ⟨{ k with nx := forGo s.stab p u k (s.items.drop (i + 1)), ct := forGo s.stab p u k (s.items.drop (i + 1)), bk := k.nx }, ρ2, ι', S', E3, R2, ⟨?_, ?_, ?_, ?_, D.ex.tr (T'.trans T2)⟩, q2⟩
    · exact fun ρ4 S4 σ4 H4 ι4 T4 R4 E4 q4 => ⟨ρ4, ι4, S4, E4, R4, (T'.trans T2).trans T4, q4⟩
    · exact fun d4 S4 v4 H4 ι4 T4 R4 r4 q4 => D.rt d4 S4 v4 H4 ι4 ((T'.trans T2).trans T4) R4 r4 q4
    · exact fun ρ4 S4 σ4 H4 ι4 T4 R4 E4 q4 => D.nx ρ4 S4 σ4 H4 ι4 ((T'.trans T2).trans T4) R4 E4 q4
    · exact fun ρ4 S4 σ4 H4 ι4 T4 R4 E4 q4 => ⟨ρ4, ι4, S4, E4, R4, (T'.trans T2).trans T4, q4⟩
theorem pw_for {tg iter : Expr} {body : List Stmt} {wi : WI} {p : Pat} (hp : PassesOwn (model X.prog X.w) X.A X.env X.xe) (hcalm : X.calm = true) (hi : PIw X tg iter wi) (hg : PG X tg (gP X.K p)) (hb : PBw X body u)
    (hs : ∀ x, foldedSetIterable iter X.env x = pure x) : PSw X (.For tg iter body [] pos) (wFor wi p u) where
  mono := fun ρ S k k' e h1 h2 h3 h4 q => by
    show wi (k'.en ρ) S _
    rw [en_eq e]
    exact hi.mono _ _ _ _ (fun s S1 q1 => forGo_mono hb.mono _ _ _ _ _ e h1 h2 q1) q
  ps := fun Y tk => PS.weak (ps_for hp hcalm (hi.pi Y tk) hg (hb.ps Y tk) hs) fun E σ H ⟨k, ρ, ι, S, Er, R, D, q⟩ =>
    ⟨k.en ρ, ι, S, D.en R Er, R, hi.mono _ _ _ _ (fun s S1 q1 J H1 ι1 T1 R1 ok => for_core (D.tr T1) (Er.tr R T1) R1 ok q1) q⟩

/-! ### loops over dicts: the dict is locked meanwhile -/
/-- what a walk of a dict gives: keys (0), values (1), pairs (2) -/
def kD : Key → D
  | .inl i => .int i
  | .inr s => .str s
def dItems : Nat → O → Option (List D)
  | 0, .dK _ kvs => some (kvs.map fun kv => kD kv.1)
  | 0, .dT _ kvs => some (kvs.map fun kv => .tup (kv.1.map kD))
  | 1, .dK _ kvs => some (kvs.map (·.2))
  | 2, .dK _ kvs => some (kvs.map fun kv => .tup [kD kv.1, kv.2])
  | _, _ => none
def lockO : Bool → O → O
  | b, .dK _ kvs => .dK b kvs
  | b, .dT _ kvs => .dT b kvs
  | _, o => o
end
end WW


set_option Elab.async false
set_option linter.all false
set_option maxRecDepth 100000
set_option maxHeartbeats 4000000
set_option autoImplicit false
namespace WW
open PySem PySem.Spec PyProof.Rows L2

/-! ### list comprehensions -/
def lcGo (st : Sto → Prop) (p : Pat) (t : WT) (e : W) (ρ0 : Rho) (Q : Q1) : List D → List D → Sto → Prop
  | [], acc, S => st S ∧ Q (.ref S.length) (S ++ [.lst acc])
  | d :: r, acc, S => st S ∧ gv (bindP p d ρ0) fun ρ1 => t (noX, ρ1) S fun b S1 => if b = true then e (noX, ρ1) S1 fun y S2 => acc.length < sizeLine ∧ lcGo st p t e ρ0 Q r (acc ++ [y]) S2 else lcGo st p t e ρ0 Q r acc S1
def wLc (wi : WI) (p : Pat) (t : WT) (e : W) (vs : List Nat) : W := fun ρ S Q => wi ρ S fun s S1 => lcGo s.stab p t e (wipeR ρ.2 vs) Q s.items [] S1
/-- nothing may be raised -/
def noY : WX := fun _ _ _ _ => False
theorem takesNo {X : Cx} : Takes X noY := fun u s' ⟨a, B, sI, pins, σ, H, cls, d, e, I, nb, up, sky, na, os, ag, w⟩ => w.elim
def wYes : WT := fun _ S Q => Q true S
theorem wYes_mono : MonoT wYes := fun ρ S Q Q' h q => h _ _ q
section
variable {K : KF} {H H' : Hp} {ι ι' : List Addr} {S : Sto}
theorem Tr.push (T : Tr H ι H' ι') {a : Addr} (h : a ∈ ι ∨ H a = none) : Tr H ι H' (ι' ++ [a]) := by
  obtain ⟨t, e, ht⟩ := T.ext
  refine ⟨⟨t ++ [a], by rw [e, List.append_assoc], fun b hb => ?_⟩, T.keep, T.frz⟩
  rcases List.mem_append.mp hb with q | q
  · exact ht b q
  · rw [List.mem_singleton] at q
    subst q
    exact h
mutual
theorem RepV.more {a : Addr} : ∀ (d : D) (v : V), RepV K H ι d v → RepV K H (ι ++ [a]) d v
  | .non, _, h => h
  | .bl _, _, h => h
  | .int _, _, h => h
  | .str _, _, h => h
  | .ref n, v, q => by
    obtain ⟨b, h1, h2⟩ := q
    exact ⟨b, by rw [List.getElem?_append_left (List.getElem?_eq_some_iff.mp h1).1]; exact h1, h2⟩
  | .tup ds, v, q => by
    obtain ⟨b, ys, h1, h2, h3⟩ := q
    exact ⟨b, ys, h1, h2, RepVs.more ds ys h3⟩
  | .fro ds, v, q => by
    obtain ⟨b, ys, h1, h2, h3⟩ := q
    exact ⟨b, ys, h1, h2, RepVs.more ds ys h3⟩
theorem RepVs.more {a : Addr} : ∀ (ds : List D) (vs : List V), RepVs K H ι ds vs → RepVs K H (ι ++ [a]) ds vs
  | [], _, q => q
  | d :: ds, vs, q => by
    obtain ⟨x, r, h1, h2, h3⟩ := q
    exact ⟨x, r, h1, RepV.more d x h2, RepVs.more ds r h3⟩
end
/-- an object that stands beside becomes one of the store -/
theorem RepS.push (R : RepS K H ι S) {a : Addr} {xs : List V} {ds : List D} (hn : a ∉ ι) (h : H a = some (.lst xs)) (r : RepVs K H ι ds xs) : RepS K H (ι ++ [a]) (S ++ [.lst ds]) := by
  refine ⟨by simp [R.len], ?_, fun n b u e1 e2 => ?_⟩
  · rw [List.nodup_append]
    refine ⟨R.nd, by simp, fun x hx y hy => ?_⟩
    rw [List.mem_singleton] at hy
    subst hy
    intro e
    subst e
    exact hn hx
  · by_cases hl : n < ι.length
    · rw [List.getElem?_append_left hl] at e1
      rw [List.getElem?_append_left (by rw [← R.len]; exact hl)] at e2
      obtain ⟨o, e, b⟩ := R.ob n b u e1 e2
      exact ⟨o, e, b.mv RepVs.more⟩
    · rw [List.getElem?_append_right (Nat.le_of_not_lt hl)] at e1
      rw [List.getElem?_append_right (by rw [← R.len]; exact Nat.le_of_not_lt hl), ← R.len] at e2
      cases hk : n - ι.length with
      | zero =>
        rw [hk] at e1 e2
        simp at e1 e2
        subst e1
        subst e2
        exact ⟨_, h, xs, rfl, RepVs.more _ _ r⟩
      | succ k =>
        rw [hk] at e1
        simp at e1
end
section
variable {K : KF} {H : Hp} {ι : List Addr} {a : Addr} {zs : List V} {o : HO}
theorem tup_beside {b : Addr} {ys : List V} (h : H a = some (.lst zs)) (q : H b = some (.tup ys)) : (upd H a o) b = some (.tup ys) := by
  rw [upd_ne (fun e => by subst e; rw [h] at q; cases q)]
  exact q
theorem SqK.beside {b : Addr} {ys : List V} (h : H a = some (.lst zs)) (q : SqK K H b ys) : SqK K (upd H a o) b ys := by
  rcases q with ⟨u, q⟩ | q
  · exact .inl ⟨u, by rw [upd_ne (fun e => by subst e; rw [h] at q; cases q)]; exact q⟩
  · exact .inr q
mutual
theorem RepV.beside (hn : a ∉ ι) (h : H a = some (.lst zs)) : ∀ (d : D) (v : V), RepV K H ι d v → RepV K (upd H a o) ι d v
  | .non, _, q => q
  | .bl _, _, q => q
  | .int _, _, q => q
  | .str _, _, q => q
  | .ref n, v, q => q
  | .tup ds, v, q => by
    obtain ⟨b, ys, h1, h2, h3⟩ := q
    exact ⟨b, ys, h1, tup_beside h h2, RepVs.beside hn h ds ys h3⟩
  | .fro ds, v, q => by
    obtain ⟨b, ys, h1, h2, h3⟩ := q
    exact ⟨b, ys, h1, SqK.beside h h2, RepVs.beside hn h ds ys h3⟩
theorem RepVs.beside (hn : a ∉ ι) (h : H a = some (.lst zs)) : ∀ (ds : List D) (vs : List V), RepVs K H ι ds vs → RepVs K (upd H a o) ι ds vs
  | [], _, q => q
  | d :: ds, vs, q => by
    obtain ⟨x, r, h1, h2, h3⟩ := q
    exact ⟨x, r, h1, RepV.beside hn h d x h2, RepVs.beside hn h ds r h3⟩
end
end
section
variable {X : Cx}
theorem lcGo_mono {st : Sto → Prop} {p : Pat} {t : WT} {e : W} {ρ0 : Rho} (mt : MonoT t) (me : MonoW e) : ∀ (ds acc : List D) (S : Sto) (Q Q' : Q1), (∀ d S', Q d S' → Q' d S') → lcGo st p t e ρ0 Q ds acc S → lcGo st p t e ρ0 Q' ds acc S
  | [], acc, S, Q, Q', h, q => ⟨q.1, h _ _ q.2⟩
  | d :: r, acc, S, Q, Q', h, ⟨q1, q2⟩ => by
    obtain ⟨ρ1, e1, q⟩ := gv_iff.mp q2
    exact ⟨q1, gv_iff.mpr ⟨ρ1, e1, mt _ _ _ _ (fun b S1 z => by
      cases b with
      | true => exact me _ _ _ _ (fun y S2 z => ⟨z.1, lcGo_mono mt me r _ _ Q Q' h z.2⟩) z
      | false => exact lcGo_mono mt me r _ _ Q Q' h z) q⟩⟩
theorem lcGo_st {st : Sto → Prop} {p : Pat} {t : WT} {e : W} {ρ0 : Rho} {ds acc : List D} {S : Sto} {Q : Q1} (q : lcGo st p t e ρ0 Q ds acc S) : st S := by
  cases ds <;> exact q.1
theorem wLc_mono {wi : WI} {p : Pat} {t : WT} {e : W} {vs : List Nat} (mi : MonoI wi) (mt : MonoT t) (me : MonoW e) : MonoW (wLc wi p t e vs) := fun ρ S Q Q' h q =>
  mi _ _ _ _ (fun s S1 q1 => lcGo_mono mt me _ _ _ _ _ h q1) q
theorem lc_down {K : KF} {Y : WX} {wi : WI} {p : Pat} {t : WT} {e : W} {vs : List Nat} {tt : TT} (hi : MonoI wi) (mt : MonoT t) (me : MonoW e) (ht : ∀ σ H Q, tT K noY t σ H Q → tt σ H Q) (hp : ∀ i ∈ p.vs, i ∈ vs) :
    ∀ σ H Q, tE K Y (wLc wi p t e vs) σ H Q → tLc (tI K Y wi) (gP K.K p) tt (tE K noY e) vs σ H Q := fun σ H Q ⟨ρ, ι, S, Er, R, q⟩ => by
  refine ⟨ρ, ι, S, Er, R, hi _ _ _ _ (fun s S1 q1 J H1 ι1 T1 R1 ok => ?_) q⟩
  intro Dl hD
  have hDι : Dl ∈ ι ∨ H Dl = none := by
    by_cases hm : Dl ∈ ι
    · exact .inl hm
    · right
      cases z : H Dl with
      | none => rfl
      | some o => rw [T1.keep Dl o z hm] at hD; cases hD
  refine ⟨fun i m H' => i + m = s.items.length ∧ ∃ ι' S' acc xs, RepS K H' ι' S' ∧ Tr H1 ι1 H' ι' ∧ H' Dl = some (.lst xs) ∧ Dl ∉ ι' ∧ RepVs K H' ι' acc xs ∧ lcGo s.stab p t e (wipeR ρ.2 vs) (fun d S' => ∀ v H' ι', Tr H ι H' ι' → RepS K H' ι' S' → RepV K H' ι' d v → Q v H') (s.items.drop i) acc S',
    ⟨s.items.length, Nat.zero_add _, ι1, S1, [], [], RepS.new R1 hD, Tr.new R1 hD, upd_same, R1.fresh hD, rfl, q1⟩, fun i m H' ⟨hm, ι', S', acc, xs, R', T', hDl, hDn, ra, q'⟩ => ?_⟩
  have hst := lcGo_st q'
  obtain ⟨o1, o2⟩ := ok i H' ι' S' T' R' hst
  by_cases hl : s.items.length ≤ i
  · left
    rw [List.drop_of_length_le hl] at q'
    refine ⟨o2 hl, q'.2 _ H' (ι' ++ [Dl]) ((T1.trans T').push hDι) (R'.push hDn hDl ra) ⟨Dl, ?_, rfl⟩⟩
    rw [← R'.len]
    simp
  · right
    have hl' : i < s.items.length := Nat.lt_of_not_le hl
    have e1 : s.items[i]? = some s.items[i] := List.getElem?_eq_getElem hl'
    obtain ⟨g1, g2⟩ := o1 _ e1
    rw [List.drop_eq_getElem_cons hl'] at q'
    refine ⟨g1, fun H2 => ∃ ι2 S2 acc xs, RepS K H2 ι2 S2 ∧ Tr H1 ι1 H2 ι2 ∧ H2 Dl = some (.lst xs) ∧ Dl ∉ ι2 ∧ RepVs K H2 ι2 acc xs ∧ lcGo s.stab p t e (wipeR ρ.2 vs) (fun d S' => ∀ v H' ι', Tr H ι H' ι' → RepS K H' ι' S' → RepV K H' ι' d v → Q v H') (s.items.drop (i + 1)) acc S2,
      fun H2 z => ⟨m - 1, by omega, by omega, z⟩, fun x H2 hy => ?_⟩
    obtain ⟨T2, R2, rx⟩ := g2 x H2 hy
    obtain ⟨ρ2, e2, q2⟩ := gv_iff.mp q'.2
    have E2 : RepR K H2 ι' (L2.wipe σ vs) (wipeR ρ.2 vs) := (((Er.r).tr R T1).tr R1 (T'.trans T2)).wipe vs
    refine bindP_S (K := K) e2 E2 rx fun σ3 E3 on => ⟨?_, ?_⟩
    · rw [wipe_only (on.mono hp), wipe_wipe]
    · refine ht _ _ _ (tT_k (Y := noY) mt (ρ := (noX, ρ2)) ⟨E3, EnX.no⟩ R2 q2 fun b S3 H3 ι3 T3 R3 E4 q3 => ?_)
      have hD3 : H3 Dl = some (.lst xs) := T3.keep _ _ (T2.keep _ _ hDl hDn) hDn
      have hn3 : Dl ∉ ι3 := T3.nmem (T2.keep _ _ hDl hDn) hDn
      have ra3 : RepVs K H3 ι3 acc xs := RepVs.tr R2 T3 _ _ (RepVs.tr R' T2 _ _ ra)
      cases b with
      | false => exact ⟨ι3, S3, acc, xs, R3, (T'.trans T2).trans T3, hD3, hn3, ra3, q3⟩
      | true =>
        refine tE_k me E4 R3 q3 fun y S4 v H4 ι4 T4 R4 ry E5 q4 => ?_
        have hD4 : H4 Dl = some (.lst xs) := T4.keep _ _ hD3 hn3
        have hn4 : Dl ∉ ι4 := T4.nmem hD3 hn3
        have ra4 : RepVs K H4 ι4 acc xs := RepVs.tr R3 T4 _ _ ra3
        refine ⟨xs, hD4, by rw [← ra4.length]; exact q4.1, ι4, S4, acc ++ [y], xs ++ [v], ?_, ?_, upd_same, hn4, ?_, q4.2⟩
        · refine ⟨R4.len, R4.nd, fun n a o h1 h2 => ?_⟩
          obtain ⟨w, z1, z2⟩ := R4.ob n a o h1 h2
          have ha : a ≠ Dl := fun z => hn4 (by subst z; exact List.mem_of_getElem? h1)
          exact ⟨w, by rw [upd_ne ha]; exact z1, z2.mv (RepVs.beside hn4 hD4)⟩
        · have T5 := ((T'.trans T2).trans T3).trans T4
          refine ⟨T5.ext, fun a o ha hn => ?_, fun a ob u ha => ?_⟩
          · by_cases hz : a = Dl
            · subst hz
              rw [hD] at ha
              cases ha
            · rw [upd_ne hz]
              exact T5.keep a o ha hn
          · by_cases hz : a = Dl
            · subst hz
              rw [hD] at ha
              cases ha
            · rw [upd_ne hz]
              exact T5.frz a ob u ha
        · exact RepVs.app (RepVs.beside hn4 hD4 _ _ ra4) (RepVs.one (RepV.beside hn4 hD4 _ _ ry))
end
end WW


set_option Elab.async false
set_option linter.all false
set_option maxRecDepth 100000
set_option maxHeartbeats 4000000
set_option autoImplicit false
namespace WW
open PySem PySem.Spec PyProof.Rows L2

theorem PTs.weak {X : Cx} {ifs : List Expr} {t t' : TT} (h : PTs X ifs t) (w : ∀ σ H Q, t' σ H Q → t σ H Q) : PTs X ifs t' := ⟨fun pins s σ H Q I q => h.run pins s σ H Q I (w σ H Q q)⟩
structure PTsw (X : Cx) (ifs : List Expr) (w : WT) : Prop where
  mono : MonoT w
  pe : ∀ Y, Takes X Y → PTs X ifs (tT (kf X) Y w)
section
variable {X : Cx}
theorem pw_ifs0 : PTsw X [] wYes where
  mono := wYes_mono
  pe := fun Y tk => PTs.weak pts_nil fun σ H Q ⟨ρ, ι, S, E, R, q⟩ => q H ι (Tr.refl _ _) R
theorem pw_ifs1 {c : Expr} {w : WT} (h : PTw X c w) : PTsw X [c] w := ⟨h.mono, fun Y tk => pts_one (h.pe Y tk)⟩
theorem pw_lc {elt tg iter : Expr} {ifs : List Expr} {scope : Scope} {own : List (Str × Nat)} {pos : Pos} {wi : WI} {p : Pat} {t : WT} {e : W} (hc : X.calm = true) (hN : X.N.Nodup) (hi : PIw X tg iter wi) (ok : BlkOk X.N X.env.scope scope own) (mt : MonoT t) (me : MonoW e)
    (hp : ∀ i ∈ p.vs, i ∈ own.map (·.2))
    (hg : ∀ (s : Shared) (H : Hp) (C : Addr) (cl : List (Str × Addr)) (fp : List Addr), PG (X.blk s H scope (compEnvC scope cl C X.env) fp) tg (gP X.K p)) (ht : ∀ (s : Shared) (H : Hp) (C : Addr) (cl : List (Str × Addr)) (fp : List Addr), PTs (X.blk s H scope (compEnvC scope cl C X.env) fp) ifs (tT (kf X) noY t))
    (he : ∀ (s : Shared) (H : Hp) (C : Addr) (cl : List (Str × Addr)) (fp : List Addr), PE (X.blk s H scope (compEnvC scope cl C X.env) fp) elt (tE (kf X) noY e)) (hs : ∀ x, foldedSetIterable iter X.env x = pure x) :
    PEw X (.ListComp elt [⟨tg, iter, ifs, 0⟩] scope pos) (wLc wi p t e (own.map (·.2))) where
  mono := wLc_mono hi.mono mt me
  pe := fun Y tk => PE.weak (pe_lc hc hN (hi.pi Y tk) ok hg ht he hs) (lc_down (K := kf X) hi.mono mt me (fun _ _ _ q => q) hp)
theorem pw_setLc {i : Nat} {y : Str} {py : Pos} {elt tg iter : Expr} {ifs : List Expr} {scope : Scope} {own : List (Str × Nat)} {pos spos : Pos} {wi : WI} {p : Pat} {t : WT} {e : W} (hc : X.calm = true) (hN : X.N.Nodup) (hy : X.N[i]? = some y) (hyl : X.env.scope.names.lookup y = some .local)
    (hsw : swapsWith (.ListComp elt [⟨tg, iter, ifs, 0⟩] scope pos) (some (.Name y py)) spos.line X.env = pure true) (hi : PIw X tg iter wi) (ok : BlkOk X.N X.env.scope scope own) (mt : MonoT t) (me : MonoW e)
    (hp : ∀ i ∈ p.vs, i ∈ own.map (·.2))
    (hg : ∀ (s : Shared) (H : Hp) (C : Addr) (cl : List (Str × Addr)) (fp : List Addr), PG (X.blk s H scope (compEnvC scope cl C X.env) fp) tg (gP X.K p)) (ht : ∀ (s : Shared) (H : Hp) (C : Addr) (cl : List (Str × Addr)) (fp : List Addr), PTs (X.blk s H scope (compEnvC scope cl C X.env) fp) ifs (tT (kf X) noY t))
    (he : ∀ (s : Shared) (H : Hp) (C : Addr) (cl : List (Str × Addr)) (fp : List Addr), PE (X.blk s H scope (compEnvC scope cl C X.env) fp) elt (tE (kf X) noY e)) (hs : ∀ x, foldedSetIterable iter X.env x = pure x) :
    PSw X (.Assign [.Name y py] (.ListComp elt [⟨tg, iter, ifs, 0⟩] scope pos) spos) (wAsg i (wLc wi p t e (own.map (·.2)))) where
  mono := fun ρ S k k' e h1 h2 h3 h4 q => by
    show wLc _ _ _ _ _ (k'.en ρ) S _
    rw [en_eq e]
    exact wLc_mono hi.mono mt me _ _ _ _ (fun d S' z => h1 _ _ z) q
  ps := fun Y tk => PS.weak (ps_setLc hc hN hy hyl hsw (hi.pi Y tk) ok hg ht he hs) fun E σ H ⟨k, ρ, ι, S, Er, R, D, q⟩ => by
    refine lc_down (K := kf X) hi.mono mt me (fun _ _ _ q => q) hp _ _ _ (tE_k (wLc_mono hi.mono mt me) (D.en R Er) R q fun d S1 v H1 ι1 T1 R1 r E1 q1 => ?_)
    exact D.nx _ S1 _ H1 ι1 T1 R1 (E1.r.put r) q1
end

/-! ### calls of what is built in -/
def lenC : CalD
  | [.tup ds], S, Q => Q (.int (ds.length : Nat)) S
  | [.fro ds], S, Q => Q (.int (ds.length : Nat)) S
  | [.ref n], S, Q => (∃ ds, S[n]? = some (.lst ds) ∧ Q (.int (ds.length : Nat)) S) ∨ (∃ ds, S[n]? = some (.dK false ds) ∧ Q (.int (ds.length : Nat)) S) ∨ ∃ ds, S[n]? = some (.dT false ds) ∧ Q (.int (ds.length : Nat)) S
  | [.str z], S, Q => z.length ≤ sizeLine ∧ Q (.int (z.length : Nat)) S
  | _, _, _ => False
def listC : CalD
  | [.tup ds], S, Q => Q (.ref S.length) (S ++ [.lst ds])
  | [.fro ds], S, Q => Q (.ref S.length) (S ++ [.lst ds])
  | [.ref n], S, Q => ∃ ds, S[n]? = some (.lst ds) ∧ Q (.ref S.length) (S ++ [.lst ds])
  | _, _, _ => False
def tupleC : CalD
  | [.tup ds], S, Q => Q (.tup ds) S
  | [.fro ds], S, Q => Q (.tup ds) S
  | [.ref n], S, Q => ∃ ds, S[n]? = some (.lst ds) ∧ Q (.tup ds) S
  | _, _, _ => False
def intC : CalD
  | [.int i], S, Q => Q (.int i) S
  | _, _, _ => False
section
variable {X : Cx}
theorem lenC_S : CalS X (.builtin "len") lenC where
  mono := fun ds S Q Q' h q => by
    unfold lenC at q ⊢
    split at q
    · exact h _ _ q
    · exact h _ _ q
    · rcases q with ⟨ds, a, b⟩ | ⟨ds, a, b⟩ | ⟨ds, a, b⟩
      · exact .inl ⟨ds, a, h _ _ b⟩
      · exact .inr (.inl ⟨ds, a, h _ _ b⟩)
      · exact .inr (.inr ⟨ds, a, h _ _ b⟩)
    · exact ⟨q.1, h _ _ q.2⟩
    · exact q.elim
  rd := ⟨_, CallR.or (CallR.or call_len_seq call_len_str) (CallR.or call_lenD call_len_dT), fun ds S Q vs H ι QV R rs q k => by
    unfold lenC at q
    split at q
    · obtain ⟨v, r, rfl, rv, rr⟩ := rs
      cases rr
      obtain ⟨a, xs, rfl, hx, r2⟩ := rv
      exact .inl (.inl ⟨a, xs, rfl, .inr (.inl (.inl hx)), by rw [← r2.length]; exact k.here R (d := .int _) rfl q⟩)
    · obtain ⟨v, r, rfl, rv, rr⟩ := rs
      cases rr
      obtain ⟨a, xs, rfl, hx, r2⟩ := rv
      exact .inl (.inl ⟨a, xs, rfl, .inl hx.sq, by rw [← r2.length]; exact k.here R (d := .int _) rfl q⟩)
    · obtain ⟨v, r, rfl, rv, rr⟩ := rs
      cases rr
      rcases q with ⟨ds, e, q⟩ | ⟨ds, e, q⟩ | ⟨ds, e, q⟩
      · obtain ⟨a, xs, rfl, _, hx, r2⟩ := R.list rv e
        exact .inl (.inl ⟨a, xs, rfl, .inl (.inl (.inl hx)), by rw [← r2.length]; exact k.here R (d := .int _) rfl q⟩)
      · obtain ⟨a, o, rfl, _, hx, xs, hz, r2⟩ := R.obj rv e
        cases (show o = .dK xs from hz)
        exact .inr (.inl ⟨a, xs, rfl, hx, by rw [← r2.length]; exact k.here R (d := .int _) rfl q⟩)
      · obtain ⟨a, o, rfl, _, hx, xs, hz, r2⟩ := R.obj rv e
        cases (show o = .dT xs from hz)
        exact .inr (.inr ⟨a, xs, rfl, hx, by rw [← r2.length]; exact k.here R (d := .int _) rfl q⟩)
    · obtain ⟨v, r, rfl, rv, rr⟩ := rs
      cases rr
      cases rv
      exact .inl (.inr ⟨_, rfl, q.1, k.here R (d := .int _) rfl q.2⟩)
    · exact q.elim⟩
theorem listC_S : CalS X (.type "list") listC where
  mono := fun ds S Q Q' h q => by
    unfold listC at q ⊢
    split at q
    · exact h _ _ q
    · exact h _ _ q
    · obtain ⟨ds, a, b⟩ := q; exact ⟨ds, a, h _ _ b⟩
    · exact q.elim
  rd := ⟨_, call_list_of, fun ds S Q vs H ι QV R rs q k => by
    unfold listC at q
    split at q
    · obtain ⟨v, r, rfl, rv, rr⟩ := rs
      cases rr
      obtain ⟨a, xs, rfl, hx, r2⟩ := rv
      exact ⟨a, xs, rfl, .inr (.inl (.inl hx)), k.newL R r2 q⟩
    · obtain ⟨v, r, rfl, rv, rr⟩ := rs
      cases rr
      obtain ⟨a, xs, rfl, hx, r2⟩ := rv
      exact ⟨a, xs, rfl, .inl hx.sq, k.newL R r2 q⟩
    · obtain ⟨v, r, rfl, rv, rr⟩ := rs
      cases rr
      obtain ⟨ds, e, q⟩ := q
      obtain ⟨a, xs, rfl, _, hx, r2⟩ := R.list rv e
      exact ⟨a, xs, rfl, .inl (.inl (.inl hx)), k.newL R r2 q⟩
    · exact q.elim⟩
theorem tupleC_S : CalS X (.type "tuple") tupleC where
  mono := fun ds S Q Q' h q => by
    unfold tupleC at q ⊢
    split at q
    · exact h _ _ q
    · exact h _ _ q
    · obtain ⟨ds, a, b⟩ := q; exact ⟨ds, a, h _ _ b⟩
    · exact q.elim
  rd := ⟨_, call_tuple_of, fun ds S Q vs H ι QV R rs q k => by
    unfold tupleC at q
    split at q
    · obtain ⟨v, r, rfl, rv, rr⟩ := rs
      cases rr
      obtain ⟨a, xs, rfl, hx, r2⟩ := rv
      exact ⟨a, xs, rfl, .inr ⟨.inl (.inl hx), k.here R (d := .tup _) ⟨a, xs, rfl, hx, r2⟩ q⟩⟩
    · obtain ⟨v, r, rfl, rv, rr⟩ := rs
      cases rr
      obtain ⟨a, xs, rfl, hx, r2⟩ := rv
      exact ⟨a, xs, rfl, .inl ⟨hx.sq, k.newT R r2 q⟩⟩
    · obtain ⟨v, r, rfl, rv, rr⟩ := rs
      cases rr
      obtain ⟨ds, e, q⟩ := q
      obtain ⟨a, xs, rfl, _, hx, r2⟩ := R.list rv e
      exact ⟨a, xs, rfl, .inl ⟨.inl (.inl hx), k.newT R r2 q⟩⟩
    · exact q.elim⟩
theorem intC_S : CalS X (.type "int") intC where
  mono := fun ds S Q Q' h q => by
    unfold intC at q ⊢
    split at q
    · exact h _ _ q
    · exact q.elim
  rd := ⟨_, call_int1, fun ds S Q vs H ι QV R rs q k => by
    unfold intC at q
    split at q
    · rw [repVs1 rs]
      exact .inl ⟨_, rfl, k.here R (d := .int _) rfl q⟩
    · exact q.elim⟩

/-! ### methods of lists -/
def lstTy : D → Sto → Prop
  | .ref n, S => ∃ ds, S[n]? = some (.lst ds)
  | _, _ => False
def appM : MetD
  | .ref n, [d], S, Q => ∃ ds, S[n]? = some (.lst ds) ∧ ds.length < sizeLine ∧ Q .non (S.set n (.lst (ds ++ [d])))
  | _, _, _, _ => False
def popM : MetD
  | .ref n, [], S, Q => ∃ ds, S[n]? = some (.lst ds) ∧ gv (ds[ds.length - 1]?) fun d => Q d (S.set n (.lst ds.dropLast))
  | _, _, _, _ => False
def extM : MetD
  | .ref n, [.ref m], S, Q => ∃ ds es, S[n]? = some (.lst ds) ∧ S[m]? = some (.lst es) ∧ ds.length + es.length ≤ sizeLine ∧ Q .non (S.set n (.lst (ds ++ es)))
  | _, _, _, _ => False
theorem lstTy_V {K : KF} : ∀ x S v H ι, RepS K H ι S → RepV K H ι x v → lstTy x S → tyV K.K "list" v H := fun x S v H ι R r h => by
  cases x with
  | ref n =>
    obtain ⟨ds, e⟩ := h
    obtain ⟨a, xs, rfl, _, hx, _⟩ := R.list r e
    exact .inl ⟨rfl, xs, .inl (.inl hx)⟩
  | non => exact h.elim
  | bl _ => exact h.elim
  | int _ => exact h.elim
  | str _ => exact h.elim
  | tup _ => exact h.elim
  | fro _ => exact h.elim
theorem RepVs.dropLast {K : KF} {H : Hp} {ι : List Addr} {ds : List D} {xs : List V} (h : RepVs K H ι ds xs) : RepVs K H ι ds.dropLast xs.dropLast := by
  rw [List.dropLast_eq_take, List.dropLast_eq_take, ← h.length]
  exact RepVs.take _ h
theorem appM_S : MetS X "list" "list.append" lstTy appM where
  mono := fun x ds S Q Q' h q => by
    unfold appM at q ⊢
    split at q
    · obtain ⟨ds, a, b, c⟩ := q; exact ⟨ds, a, b, h _ _ c⟩
    · exact q.elim
  ty_ := lstTy_V
  rd := ⟨_, mt_append, fun x ds S Q v vs H ι QV R rx rs q k => by
    unfold appM at q
    split at q
    · obtain ⟨es, e, hl, q⟩ := q
      obtain ⟨a, xs, rfl, hi, hx, r2⟩ := R.list rx e
      obtain ⟨w, r, rfl, rv, rr⟩ := rs
      cases rr
      exact ⟨a, xs, w, rfl, rfl, hx, by rw [← r2.length]; exact hl, k _ _ q .non _ ι (Tr.write R hi (nfz hx)) (RepS.write R hi (RepVs.app r2 (RepVs.one rv))) rfl⟩
    · exact q.elim⟩
theorem popM_S : MetS X "list" "list.pop" lstTy popM where
  mono := fun x ds S Q Q' h q => by
    unfold popM at q ⊢
    split at q
    · obtain ⟨ds, a, b⟩ := q
      obtain ⟨d, e, c⟩ := gv_iff.mp b
      exact ⟨ds, a, gv_iff.mpr ⟨d, e, h _ _ c⟩⟩
    · exact q.elim
  ty_ := lstTy_V
  rd := ⟨_, mt_pop, fun x ds S Q v vs H ι QV R rx rs q k => by
    unfold popM at q
    split at q
    · obtain ⟨es, e, q⟩ := q
      obtain ⟨d, e2, q⟩ := gv_iff.mp q
      obtain ⟨a, xs, rfl, hi, hx, r2⟩ := R.list rx e
      cases rs
      obtain ⟨y, hy, ry⟩ := r2.get e2
      exact ⟨a, xs, y, rfl, rfl, hx, by rw [← r2.length]; exact hy, k _ _ q y _ ι (Tr.write R hi (nfz hx)) (RepS.write R hi r2.dropLast) (RepV.tr R (Tr.write R hi (nfz hx)) _ _ ry)⟩
    · exact q.elim⟩
theorem extM_S : MetS X "list" "list.extend" lstTy extM where
  mono := fun x ds S Q Q' h q => by
    unfold extM at q ⊢
    split at q
    · obtain ⟨ds, es, a, b, c, d⟩ := q; exact ⟨ds, es, a, b, c, h _ _ d⟩
    · exact q.elim
  ty_ := lstTy_V
  rd := ⟨_, mt_extend, fun x ds S Q v vs H ι QV R rx rs q k => by
    unfold extM at q
    split at q
    · obtain ⟨ds, es, e1, e2, hl, q⟩ := q
      obtain ⟨a, xs, rfl, hi, hx, r2⟩ := R.list rx e1
      obtain ⟨w, r, rfl, rv, rr⟩ := rs
      cases rr
      obtain ⟨b, ys, rfl, hj, hy, r3⟩ := R.list rv e2
      exact ⟨a, b, xs, ys, rfl, rfl, hx, hy, by rw [← r2.length, ← r3.length]; exact hl, k _ _ q .non _ ι (Tr.write R hi (nfz hx)) (RepS.write R hi (RepVs.app r2 r3)) rfl⟩
    · exact q.elim⟩
end
end WW


set_option Elab.async false
set_option linter.all false
set_option maxRecDepth 100000
set_option maxHeartbeats 4000000
set_option autoImplicit false
namespace WW
open PySem PySem.Spec PyProof.Rows L2

/-! ### sorted(set(xs)) of a list of ints, any number of them (below the set's own line) -/
/-- an empty set, as set() lays it -/
abbrev emptySet (w : World) : Obj := { cls := .type "set", dict := none, data := .set #[] 0 (.fresh 0 0 (!w.params.followText "set-order")) }
section
variable {P : Program} {w : World} {A : Around} {E : Value → Shared → Prop} {s : Shared}
set_option maxHeartbeats 8000000 in
theorem set_list {l : Addr} {its : Array Value} (ns : List Int) {Q : Value → Shared → Prop} (noh : A.handled = none) (hl : s.heap.IsList l its) (hit : IntsAre its.toList ns) (few : ns.length + 1 < scanBound)
    (h : ∀ (h' : Heap) (tk c : Nat), SetR w h' s.heap.objs.size (fun j => decide (j ∈ ns)) c → c ≤ ns.length → (∀ b o, s.heap.get? b = some o → h'.get? b = some o) → Q (.ref s.heap.objs.size) { s with heap := h', toks := tk }) :
    wpAny (model P w) A (call (.type "set") [.ref l]) Q E s := by
  have sz : its.size = ns.length := by
    rw [← IntsAre.length hit, Array.length_toList]
  obtain ⟨c0, tl0, mro0⟩ := F.called_set.mro
  have f1 := F.called_set.made
  have f2 := F.called_set.sub
  refine wpAny_call (codeAny_of_tree ?_)
  show wpAny _ _ (callAny (.type "set") _) _ _ _
  refine wpAny_pure ⟨Code.quiet_builtin _ (by decide +kernel), codeAny_builtin F.entry_type_call ?_⟩
  rw [Around.under_plain (weight_type_call_type "set" [.ref l] []) rfl]
  have f3 := F.called_set.notType
  have f4 := F.called_set.canCreate
  have f5 := F.typeCall_set_1 (.ref l)
  repeat (any_goals (first | assumption | wp_step))
  refine codeAny_mono (code_set_led1 (.ref l) (E := E) (Q₁ := fun ob t => ob = .ref s.heap.objs.size ∧ t = { s with heap := s.heap.push (emptySet w) }) ⟨rfl, rfl⟩) fun r t ht => ?_
  cases r with
  | error e => exact ht
  | ok fl =>
    cases fl with
    | ret ob =>
      obtain ⟨rfl, rfl⟩ := ht
      have new0 : (s.heap.push (emptySet w)).get? s.heap.objs.size = some (emptySet w) := Heap.get?_push_size _ rfl
      have ty0 : Shared.TypeIs { s with heap := s.heap.push (emptySet w) } (.ref s.heap.objs.size) "set" := ⟨_, new0, rfl⟩
      have f6 := F.called_set.init.lookup
      have f7 := F.called_set.init.bind (.ref s.heap.objs.size)
      repeat (any_goals (first | assumption | wp_step))
      refine codeAny_mono (codeAny_call_builtin (R := wants (fun r t2 => r = .none ∧ ∃ h' tk c, t2 = { s with heap := h', toks := tk } ∧ SetR w h' s.heap.objs.size (fun j => decide (j ∈ ns)) c ∧ c ≤ ns.length ∧
          (∀ b o, s.heap.get? b = some o → h'.get? b = some o)) E) F.called_set.init.plain F.entry_set_init (check_set_init_1 ty0 ?_)) fun r2 t2 h2 => ?_
      · obtain ⟨ol, hol, hcl, nl, hdl⟩ := hl
        obtain ⟨ocls, odict, odata, oslots⟩ := ol
        simp only at hcl hdl
        subst hcl; subst hdl
        have hol' : (s.heap.push (emptySet w)).get? l = some { cls := .type "list", dict := odict, data := .seq its nl, slots := oslots } := Heap.get?_push_of_some _ hol
        have g1 := F.sub_list_set
        have g2 := F.sub_list_frozenset
        have g3 : (Value.type "list" == Value.type "dict") = false := by decide
        have isl : (s.heap.push (emptySet w)).IsList l its := ⟨_, hol', rfl, nl, rfl⟩
        unfold Builtin.«set.__init__» noKeywords Builtin.Frozenset.updateFrom
        generalize hPI : pyIter = PI
        wp_walk
        subst hPI
        refine wpAny_pyIter_list isl ?_
        refine wpAny_bind (wpAny_runValue ?_)
        have ltl : l < s.heap.objs.size := Heap.lt_size hol
        have noh3 : A.in1.in1.in1.handled = none := by simp [noh]
        have szp : (s.heap.push (emptySet w)).objs.size = s.heap.objs.size + 1 := Heap.size_push ..
        have apart : l ≠ (s.heap.push (emptySet w)).objs.size := by
          rw [szp]; exact Nat.ne_of_lt (Nat.lt_succ_of_lt ltl)
        have notfp : s.heap.objs.size ∉ [(s.heap.push (emptySet w)).objs.size, l] := by
          rw [szp]
          intro z
          rcases List.mem_cons.mp z with z | z
          · exact Nat.ne_of_lt (Nat.lt_succ_self _) z
          · rw [List.mem_singleton] at z
            exact Nat.ne_of_gt ltl z
        have val : ∀ (i : Nat) (v : Value), its[i]? = some v → ∃ k t, ns[i]? = some k ∧ v = .int k t := fun i v hv => by
          have hi : i < ns.length := by rw [← sz]; exact (Array.getElem?_eq_some_iff.mp hv).1
          obtain ⟨t, e⟩ := PyProof.Rows.IntsAre.int_at hit i v (by rw [Array.getElem?_toList]; exact hv)
          have e2 : ns.getD i 0 = ns[i] := by rw [List.getD_eq_getElem?_getD, List.getElem?_eq_getElem hi]; rfl
          exact ⟨ns[i], t, List.getElem?_eq_getElem hi, by rw [e, e2]⟩
        refine set_update_ints ((Walks.list noh3 _ l apart its).toS) s.heap.objs.size notfp ns sz few val (its.size - 0) 0 _ (by omega) (Nat.zero_le _)
          ⟨⟨_, Heap.get?_push_size _ rfl, rfl, rfl⟩, (isl.push _)⟩ ⟨0, Nat.le_refl 0, setR_new_at (Heap.get?_push_of_some _ new0)⟩ ?_
        intro s' c' mv lec R'
        obtain ⟨h', g', d', tk', os'⟩ := s'
        have eg : g' = s.gens := mv.gens
        have ed : d' = s.drawn := mv.drawn
        have eo : os' = s.os := mv.os
        subst eg; subst ed; subst eo
        show wpAny _ _ _ _ _ _
        refine wpAny_pure ?_
        show wpAny _ _ (ret Value.none) _ _ _
        rw [sz] at lec
        refine wpAny_pure ⟨rfl, h', tk', c', rfl, R', lec, fun b o e => ?_⟩
        have lb : b < s.heap.objs.size := Heap.lt_size e
        refine mv.heap b o (fun z => ?_) (Heap.get?_push_of_some _ (Heap.get?_push_of_some _ e))
        rcases List.mem_cons.mp z with z | z
        · exact Nat.ne_of_lt lb z
        · rw [List.mem_singleton] at z
          rw [szp] at z
          exact Nat.ne_of_lt (Nat.lt_succ_of_lt lb) z
      · cases r2 with
        | error e => exact h2
        | ok f2 =>
          cases f2 with
          | ret r =>
            obtain ⟨rfl, h', tk, c', rfl, R', lec, kp⟩ := h2
            repeat (any_goals (first | assumption | wp_step))
            exact h _ _ _ R' lec kp
          | _ => exact h2.elim
    | _ => exact ht.elim
/-- sorted of a set of ints -/
theorem sorted_any {a : Addr} {T : Int → Bool} {n : Nat} {Q : Value → Shared → Prop} (R : SetR w s.heap a T n) (noh : A.handled = none)
    (hQ : ∀ t p (out : List Value) (c : Nat) (ms : List Int), (∀ b o, s.heap.get? b = some o → t.heap.get? b = some o) → t.gens = s.gens → t.os = s.os → s.heap.objs.size ≤ p →
      t.heap.get? p = some (seqObj "list" out.toArray c) → IntsAre out ms → ms.Pairwise (· < ·) → (∀ k, k ∈ ms ↔ T k = true) → ms.length = n → Q (.ref p) t) :
    wpAny (model P w) A (call (.builtin "sorted") [.ref a]) Q E s := by
  obtain ⟨o, es, ep, t0, ho, hex, hd, g, nd, hm, hb, hf, hn, hr, hl⟩ := R
  refine Calls.call_function_entry kind_sorted plain_sorted entry_sorted (args_sorted1 _) ?_
  unfold Builtin.«sorted»
  refine wpAny_bind (m := checkCount "sorted" 1 1 _) (wpAny_pure ?_)
  refine wpAny_bind (collect_set (A := A.in1) noh ⟨o, ho, hex.1, hd⟩ hf hb hr hl fun t1 vs kp szl g1 o1 pm => ?_)
  have lv : vs.length = n := by rw [pm.length_eq, List.length_map, Array.length_toList]; exact hn
  have lz : vs.length ≤ sizeLine := by
    rw [lv, sizeLine_eq]
    unfold scanBound at hb
    omega
  have iv : IntsAre vs (vs.map Builtin.Re.reRawOf) := ints_of vs fun v hv => by
    obtain ⟨e, he, q⟩ := List.mem_map.mp (pm.mem_iff.mp hv)
    obtain ⟨k, tk, h1, _⟩ := g e he
    exact ⟨k, tk, by rw [← q]; exact h1⟩
  have pk : (vs.map Builtin.Re.reRawOf).Perm (es.toList.map keyOf) := by
    have q := pm.map Builtin.Re.reRawOf
    rw [List.map_map] at q
    exact q
  refine wpAny_bind (wpAny_newList ?_ lz)
  have at1 : (t1.heap.push (seqObj "list" vs.toArray 0)).get? t1.heap.objs.size = some (seqObj "list" vs.toArray 0) := Heap.get?_push_size _ rfl
  refine wpAny_bind (wpAny_holding (wpAny_call_entry slot_list_sort ⟨_, at1, rfl⟩ entry_list_sort (SrtO.list_sort_ord SrtO.swo_int at1 lz (fun h2 => SrtO.ints_sortable iv h2) fun out s1 s2 => ⟨_, rfl, ?_⟩) (args_list_sort _)))
  obtain ⟨a1, a2, a3⟩ := SrtO.ints_out iv s1 s2
  obtain ⟨c, hc⟩ := sortedHeap_at (vs := vs) (out := out.toArray) at1
  have pn : (out.map SrtO.iv).Perm (es.toList.map keyOf) := a2.trans pk
  refine wpAny_pure ⟨_, rfl, hQ _ t1.heap.objs.size out c _ (fun b u e => ?_) g1 o1 szl hc a1 (lt_of_le_nodup _ a3 (pn.nodup_iff.mpr nd)) (fun k => by rw [pn.mem_iff, ← hm k]) ?_⟩
  · have q := kp b u e
    have lt1 := Heap.lt_size q
    show (sortedHeap (t1.heap.push (seqObj "list" vs.toArray 0)) t1.heap.objs.size vs out.toArray).get? b = some u
    rw [sortedHeap_old (Nat.ne_of_lt lt1) (by rw [size_push']; exact Nat.lt_succ_of_lt lt1)]
    exact Heap.get?_push_of_some _ q
  · rw [pn.length_eq, List.length_map, Array.length_toList]; exact hn
end
/-- sorted(set(e)) over the layer -/
def tSSet (K : PySem.W.Frag) (ta : TE) : TE := fun σ H Q => ta σ H fun x H1 => ∃ (l : Addr) (ns : List Int), x = .ref l ∧ (SqL K H1 l (ns.map V.int) ∨ SqT K H1 l (ns.map V.int)) ∧ ns.length ≤ 4000 ∧
  ∀ (ms : List Int) (p : Addr), ms.Pairwise (· < ·) → (∀ k, k ∈ ms ↔ k ∈ ns) → H1 p = none → Q (.ref p) (upd H1 p (.lst (ms.map V.int)))
theorem pe_sset {X : Cx} {a : Expr} {ta : TE} {p p2 q pos : Pos} (hg : Gl X "sorted") (hm : X.mg "sorted" = none) (hg2 : Gl X "set") (hm2 : X.mg "set" = none) (ha : PE X a ta) (hc : X.calm = true)
    (na : starEach [a] X.env = (false, eval a X.env) :: starEach [] X.env) : PE X (.Call (.Name "sorted" p) [.Call (.Name "set" p2) [a] [] q] [] pos) (tSSet X.K ta) := by
  refine ⟨fun pins s σ H Q I h => ?_⟩
  refine Call_ (ld_blt I hg hm boot_sorted ?_)
  refine PyProof.Rows.callWith_builtin1 (PyProof.Rows.args_cons ?_ rfl) rfl rfl
  refine Call_ (ld_blt I hg2 hm2 PyProof.Rows.boot_set ?_)
  refine PyProof.Rows.callWith_type1 (PyProof.Rows.args_cons (thn (ha.run pins s σ H _ I h) fun v s1 ⟨x, H1, I1, r1, q1⟩ => PyProof.Rows.args_nil ?_) na) na rfl
  obtain ⟨l, ns, rfl, hq, hl, q1⟩ := q1
  cases r1
  have noh := I1.ok.hd hc
  have few : ns.length + 1 < scanBound := by unfold scanBound; omega
  have fin : ∀ (h' : Heap) (tk c : Nat), SetR X.w h' s1.heap.objs.size (fun j => decide (j ∈ ns)) c → c ≤ ns.length → (∀ b o, s1.heap.get? b = some o → h'.get? b = some o) →
      wpAny (model X.prog X.w) X.A (call (.builtin "sorted") [.ref s1.heap.objs.size]) (EP X pins σ Q) X.xe { s1 with heap := h', toks := tk } := fun h' tk c R lec kp => by
    refine sorted_any R noh fun t pp out c2 ms k1 g1 o1 hp hgt hi hlt hms hlen => ?_
    have hle : s1.heap.objs.size ≤ pp := Nat.le_trans (Nat.le_of_lt (SetR.lt R)) hp
    have hpn : H1 pp = none := I1.hok.fresh hle
    have hz : (ms.map V.int).length ≤ sizeLine := by rw [List.length_map, hlen, sizeLine_eq]; omega
    have kall : ∀ b u, s1.heap.get? b = some u → t.heap.get? b = some u := fun b u e => k1 b u (kp b u e)
    have J : Inv X pins σ (upd H1 pp (.lst (ms.map V.int))) { s1 with heap := t.heap, gens := t.gens, drawn := t.drawn, toks := t.toks } :=
      I1.call (ch := []) (Un.laid kall hle hpn) (I1.hok.laid kall hle ⟨hz, out, c2, vals_of_ints hi, hgt⟩) (by rw [g1]; exact I1.bare) (fun _ z => nomatch z)
    have e : t = { s1 with heap := t.heap, gens := t.gens, drawn := t.drawn, toks := t.toks } := by
      cases t
      cases s1
      cases o1
      rfl
    rw [e]
    exact ⟨.ref pp, _, J, rfl, q1 ms pp hlt (fun k => by rw [hms, decide_eq_true_eq]) hpn⟩
  rcases hq with hq | hq
  · obtain ⟨its, r, pl, hz⟩ := I1.list hq
    exact set_list ns noh pl.isList (ints_of_vals r) few fun h' tk c R lec kp => PyProof.Rows.args_nil (fin h' tk c R lec kp)
  · obtain ⟨its, r, pl, hz⟩ := I1.tuple hq
    exact call_set_tupI ns noh (show s1.heap.IsTuple l its.toArray from pl) (ints_of_vals r) few fun h' tk c R lec kp => PyProof.Rows.args_nil (fin h' tk c R lec kp)

end WW


set_option Elab.async false
set_option linter.all false
set_option maxRecDepth 100000
set_option maxHeartbeats 4000000
set_option autoImplicit false
namespace WW
open PySem PySem.Spec PyProof.Rows L2

def ssetD : D → Sto → Q1 → Prop
  | .tup ds, S, Q => ∃ ns : List Int, ds = ns.map .int ∧ ns.length ≤ 4000 ∧ ∀ ms : List Int, ms.Pairwise (· < ·) → (∀ k, k ∈ ms ↔ k ∈ ns) → Q (.ref S.length) (S ++ [.lst (ms.map .int)])
  | .fro ds, S, Q => ∃ ns : List Int, ds = ns.map .int ∧ ns.length ≤ 4000 ∧ ∀ ms : List Int, ms.Pairwise (· < ·) → (∀ k, k ∈ ms ↔ k ∈ ns) → Q (.ref S.length) (S ++ [.lst (ms.map .int)])
  | .ref n, S, Q => ∃ ns : List Int, S[n]? = some (.lst (ns.map .int)) ∧ ns.length ≤ 4000 ∧ ∀ ms : List Int, ms.Pairwise (· < ·) → (∀ k, k ∈ ms ↔ k ∈ ns) → Q (.ref S.length) (S ++ [.lst (ms.map .int)])
  | _, _, _ => False
def wSSet (a : W) : W := fun ρ S Q => a ρ S fun d S1 => ssetD d S1 Q
theorem ssetD_mono {d : D} {S : Sto} {Q Q' : Q1} (h : ∀ d S, Q d S → Q' d S) (q : ssetD d S Q) : ssetD d S Q' := by
  cases d <;> first | exact q.elim | exact let ⟨ns, a, b, c⟩ := q; ⟨ns, a, b, fun ms h1 h2 => h _ _ (c ms h1 h2)⟩
theorem RepVs.ints {K : KF} {H : Hp} {ι : List Addr} : ∀ {ns : List Int} {xs : List V}, RepVs K H ι (ns.map .int) xs → xs = ns.map V.int
  | [], _, h => h
  | n :: ns, _, h => by
    obtain ⟨x, r, rfl, h1, h2⟩ := h
    cases h1
    rw [RepVs.ints h2]
    rfl
theorem RepVs.of_ints {K : KF} {H : Hp} {ι : List Addr} : ∀ (ns : List Int), RepVs K H ι (ns.map .int) (ns.map V.int)
  | [] => rfl
  | n :: ns => ⟨_, _, rfl, rfl, RepVs.of_ints ns⟩
theorem pw_sset {X : Cx} {a : Expr} {w : W} {p p2 q pos : Pos} (hg : Gl X "sorted") (hm : X.mg "sorted" = none) (hg2 : Gl X "set") (hm2 : X.mg "set" = none) (ha : PEw X a w) (hc : X.calm = true)
    (na : starEach [a] X.env = (false, eval a X.env) :: starEach [] X.env) : PEw X (.Call (.Name "sorted" p) [.Call (.Name "set" p2) [a] [] q] [] pos) (wSSet w) where
  mono := fun ρ S Q Q' h q => ha.mono _ _ _ _ (fun d S1 q1 => ssetD_mono h q1) q
  pe := fun Y tk => PE.weak (pe_sset hg hm hg2 hm2 (ha.pe Y tk) hc na) fun σ H Q ⟨ρ, ι, S, E, R, q⟩ => tE_k ha.mono E R q fun d S1 v H1 ι1 T1 R1 r E1 q1 => by
    cases d <;> try exact q1.elim
    · obtain ⟨ns, rfl, hl, q1⟩ := q1
      obtain ⟨a, xs, rfl, hx, rr⟩ := r
      rw [RepVs.ints rr] at hx
      exact ⟨a, ns, rfl, .inr (.inl (.inl hx)), hl, fun ms pp h1 h2 hp => q1 ms h1 h2 _ _ _ (T1.trans (Tr.alloc R1 hp)) (RepS.alloc R1 hp (RepVs.of_ints ms)) (RepV.new R1)⟩
    · obtain ⟨ns, rfl, hl, q1⟩ := q1
      obtain ⟨a, xs, rfl, hx, rr⟩ := r
      rw [RepVs.ints rr] at hx
      exact ⟨a, ns, rfl, .inl hx.sq, hl, fun ms pp h1 h2 hp => q1 ms h1 h2 _ _ _ (T1.trans (Tr.alloc R1 hp)) (RepS.alloc R1 hp (RepVs.of_ints ms)) (RepV.new R1)⟩
    · obtain ⟨ns, e, hl, q1⟩ := q1
      obtain ⟨a, xs, rfl, _, hx, rr⟩ := R1.list r e
      rw [RepVs.ints rr] at hx
      exact ⟨a, ns, rfl, .inl (.inl (.inl hx)), hl, fun ms pp h1 h2 hp => q1 ms h1 h2 _ _ _ (T1.trans (Tr.alloc R1 hp)) (RepS.alloc R1 hp (RepVs.of_ints ms)) (RepV.new R1)⟩
end WW


set_option Elab.async false
set_option linter.all false
set_option maxRecDepth 100000
set_option maxHeartbeats 4000000
set_option autoImplicit false
namespace WW
open PySem PySem.Spec PyProof.Rows L2

/-! ### either of two readings -/
def wOr (a b : W) : W := fun ρ S Q => a ρ S Q ∨ b ρ S Q
theorem pw_or2 {X : Cx} {e : Expr} {a b : W} (h : PEw X e a) (g : PEw X e b) : PEw X e (wOr a b) where
  mono := fun ρ S Q Q' w q => q.elim (fun z => .inl (h.mono _ _ _ _ w z)) (fun z => .inr (g.mono _ _ _ _ w z))
  pe := fun Y tk => PE.weak (PE.or (h.pe Y tk) (g.pe Y tk)) fun σ H Q ⟨ρ, ι, S, E, R, q⟩ => q.elim (fun z => .inl ⟨ρ, ι, S, E, R, z⟩) fun z => .inr ⟨ρ, ι, S, E, R, z⟩

/-! ### isinstance of what is built in -/
inductive Ty where
  | non | bl | int | str | tup | lst | dct
  deriving DecidableEq
def Ty.s : Ty → String
  | .non => "NoneType" | .bl => "bool" | .int => "int" | .str => "str" | .tup => "tuple" | .lst => "list" | .dct => "dict"
def isiB (a b : Ty) : Bool := match b with
  | .non => (match a with | .non => true | _ => false)
  | .bl => (match a with | .bl => true | _ => false)
  | .int => (match a with | .int => true | .bl => true | _ => false)
  | .str => (match a with | .str => true | _ => false)
  | .tup => (match a with | .tup => true | _ => false)
  | .lst => (match a with | .lst => true | _ => false)
  | .dct => (match a with | .dct => true | _ => false)
theorem isi_kit : ∀ a b : Ty, kitB a.s b.s = some (isiB a b) := by
  intro a b
  cases a <;> cases b <;> decide +kernel
def tyD : D → Sto → (Ty → Prop) → Prop
  | .non, _, Q => Q .non
  | .bl _, _, Q => Q .bl
  | .int _, _, Q => Q .int
  | .str _, _, Q => Q .str
  | .tup _, _, Q => Q .tup
  | .fro _, _, _ => False
  | .ref n, S, Q => (∃ ds, S[n]? = some (.lst ds) ∧ Q .lst) ∨ (∃ ds, S[n]? = some (.dK false ds) ∧ Q .dct) ∨ ∃ ds, S[n]? = some (.dT false ds) ∧ Q .dct
def wIsi (T : Ty) (a : W) : W := fun ρ S Q => a ρ S fun d S1 => tyD d S1 fun t => Q (.bl (isiB t T)) S1
theorem tyD_mono {d : D} {S : Sto} {Q Q' : Ty → Prop} (h : ∀ t, Q t → Q' t) (q : tyD d S Q) : tyD d S Q' := by
  cases d <;> first
    | exact q.elim
    | exact h _ q
    | (rcases q with ⟨ds, a, b⟩ | ⟨ds, a, b⟩ | ⟨ds, a, b⟩
       · exact .inl ⟨ds, a, h _ b⟩
       · exact .inr (.inl ⟨ds, a, h _ b⟩)
       · exact .inr (.inr ⟨ds, a, h _ b⟩))
theorem tyD_V {K : KF} {H : Hp} {ι : List Addr} {S : Sto} {d : D} {v : V} {Q : Ty → Prop} (R : RepS K H ι S) (r : RepV K H ι d v) (q : tyD d S Q) : ∃ t : Ty, TyX K.K H v (.type t.s) ∧ Q t := by
  cases d with
  | non => cases r; exact ⟨_, .base .non, q⟩
  | bl b => cases r; exact ⟨_, .base (.bl _), q⟩
  | int b => cases r; exact ⟨_, .base (.int _), q⟩
  | str b => cases r; exact ⟨_, .base (.str _), q⟩
  | tup ds => obtain ⟨a, xs, rfl, hx, _⟩ := r; exact ⟨_, .base (.tup hx), q⟩
  | fro ds => exact q.elim
  | ref n =>
    rcases q with ⟨ds, e, q⟩ | ⟨ds, e, q⟩ | ⟨ds, e, q⟩
    · obtain ⟨a, xs, rfl, _, hx, _⟩ := R.list r e
      exact ⟨_, .base (.lst hx), q⟩
    · obtain ⟨a, o, rfl, _, hx, xs, hz, _⟩ := R.obj r e
      cases (show o = .dK xs from hz)
      exact ⟨_, .base (.dK hx), q⟩
    · obtain ⟨a, o, rfl, _, hx, xs, hz, _⟩ := R.obj r e
      cases (show o = .dT xs from hz)
      exact ⟨_, .base (.dT hx), q⟩
def tyOfS (x : Str) : Option Ty :=
  if x = "int" then some .int else if x = "str" then some .str else if x = "bool" then some .bl else if x = "tuple" then some .tup else if x = "list" then some .lst else if x = "dict" then some .dct else none
theorem tyOfS_boot {x : Str} {t : Ty} (h : tyOfS x = some t) : bootBuiltins x = some (.type t.s) ∧ x ≠ "__name__" ∧ (x == ("__debug__" : Str)) = false := by
  unfold tyOfS at h
  split at h
  · rename_i e; cases h; subst e; exact ⟨by decide +kernel, by decide, by decide⟩
  split at h
  · rename_i e; cases h; subst e; exact ⟨by decide +kernel, by decide, by decide⟩
  split at h
  · rename_i e; cases h; subst e; exact ⟨by decide +kernel, by decide, by decide⟩
  split at h
  · rename_i e; cases h; subst e; exact ⟨by decide +kernel, by decide, by decide⟩
  split at h
  · rename_i e; cases h; subst e; exact ⟨by decide +kernel, by decide, by decide⟩
  split at h
  · rename_i e; cases h; subst e; exact ⟨by decide +kernel, by decide, by decide⟩
  · cases h
theorem pw_isi {X : Cx} {a : Expr} {w : W} {y : Str} {t : Ty} {p p2 pos : Pos} (hg : Gl X "isinstance") (hm : X.mg "isinstance" = none) (ht : tyOfS y = some t) (hg2 : Gl X y) (hm2 : X.mg y = none) (ha : PEw X a w)
    (he : starEach [a, .Name y p2] X.env = (false, eval a X.env) :: starEach [.Name y p2] X.env) : PEw X (.Call (.Name "isinstance" p) [a, .Name y p2] [] pos) (wIsi t w) where
  mono := fun ρ S Q Q' h q => ha.mono _ _ _ _ (fun d S1 q1 => tyD_mono (fun t => h _ _) q1) q
  pe := fun Y tk => by
    obtain ⟨b1, b2, b3⟩ := tyOfS_boot ht
    refine PE.weak (pe_callB call_isi hg hm (by decide +kernel) (pa_cons (ha.pe Y tk) (pa_cons (pe_bltn (v := .ty t.s) hg2 hm2 b1 rfl b2 b3) pa_nil) he) (by decide) (by decide) he rfl) ?_
    intro σ H Q ⟨ρ, ι, S, E, R, q⟩
    refine tE_k ha.mono E R q fun d S1 v H1 ι1 T1 R1 r E1 q1 => ?_
    obtain ⟨t', h1, h2⟩ := tyD_V R1 r q1
    exact ⟨v, .ty t.s, .type t'.s, .type t.s, isiB t' t, rfl, .ty _, h1, isi_kit t' t, h2 (.bl _) H1 ι1 T1 R1 rfl⟩

/-! ### join -/
def strTy : D → Sto → Prop
  | .str _, _ => True
  | _, _ => False
def joinM : MetD
  | .str a, [.ref n], S, Q => ∃ ys : List Str, S[n]? = some (.lst (ys.map .str)) ∧ (ys.map (·.length)).sum + ys.length * a.length ≤ 16777216 ∧ Q (.str (Txt.join a ys)) S
  | .str a, [.tup ds], S, Q => ∃ ys : List Str, ds = ys.map .str ∧ (ys.map (·.length)).sum + ys.length * a.length ≤ 16777216 ∧ Q (.str (Txt.join a ys)) S
  | _, _, _, _ => False
theorem RepVs.strs {K : KF} {H : Hp} {ι : List Addr} : ∀ {ns : List Str} {xs : List V}, RepVs K H ι (ns.map .str) xs → xs = ns.map V.str
  | [], _, h => h
  | n :: ns, _, h => by
    obtain ⟨x, r, rfl, h1, h2⟩ := h
    cases h1
    rw [RepVs.strs h2]
    rfl
theorem joinM_S {X : Cx} : MetS X "str" "str.join" strTy joinM where
  mono := fun x ds S Q Q' h q => by
    unfold joinM at q ⊢
    split at q
    · obtain ⟨ys, a, b, c⟩ := q; exact ⟨ys, a, b, h _ _ c⟩
    · obtain ⟨ys, a, b, c⟩ := q; exact ⟨ys, a, b, h _ _ c⟩
    · exact q.elim
  ty_ := fun x S v H ι R r h => by
    cases x <;> try exact h.elim
    cases r
    rfl
  rd := ⟨_, mt_join, fun x ds S Q v vs H ι QV R rx rs q k => by
    unfold joinM at q
    split at q
    · obtain ⟨ys, e, hl, q⟩ := q
      cases rx
      obtain ⟨w, r, rfl, rv, rr⟩ := rs
      cases rr
      obtain ⟨a, xs, rfl, _, hx, r2⟩ := R.list rv e
      rw [RepVs.strs r2] at hx
      exact ⟨_, a, ys, rfl, rfl, .inl (.inl (.inl hx)), hl, k.here R (d := .str _) rfl q⟩
    · obtain ⟨ys, rfl, hl, q⟩ := q
      cases rx
      obtain ⟨w, r, rfl, rv, rr⟩ := rs
      cases rr
      obtain ⟨a, xs, rfl, hx, r2⟩ := rv
      rw [RepVs.strs r2] at hx
      exact ⟨_, a, ys, rfl, rfl, .inr (.inl (.inl hx)), hl, k.here R (d := .str _) rfl q⟩
    · exact q.elim⟩

/-! ### list(range(..)), tuple(range(..)) -/
def rgD (a b : Int) : List D := (List.range (b - a).toNat).map fun i => .int (a + (i : Nat))
theorem rg_V {K : KF} {H : Hp} {ι : List Addr} (a b : Int) : RepVs K H ι (rgD a b) (rgV a b) := by
  unfold rgD rgV
  generalize (b - a).toNat = n
  induction List.range n with
  | nil => rfl
  | cons x r ih => exact ⟨_, _, rfl, rfl, ih⟩
def rg2 : List D → (Int → Int → Prop) → Prop
  | [.int n], Q => Q 0 n
  | [.int a, .int b], Q => Q a b
  | _, _ => False
def wLstR (a : WA) : W := fun ρ S Q => a ρ S fun ds S1 => rg2 ds fun i j => RgOk i j ∧ Q (.ref S1.length) (S1 ++ [.lst (rgD i j)])
def wTupR (a : WA) : W := fun ρ S Q => a ρ S fun ds S1 => rg2 ds fun i j => RgOk i j ∧ Q (.tup (rgD i j)) S1
theorem rg2_iff {ds : List D} {Q : Int → Int → Prop} (q : rg2 ds Q) : (∃ n, ds = [.int n] ∧ Q 0 n) ∨ ∃ a b, ds = [.int a, .int b] ∧ Q a b := by
  unfold rg2 at q
  split at q
  · exact .inl ⟨_, rfl, q⟩
  · exact .inr ⟨_, _, rfl, q⟩
  · exact q.elim
theorem rg2_mono {ds : List D} {Q Q' : Int → Int → Prop} (h : ∀ i j, Q i j → Q' i j) (q : rg2 ds Q) : rg2 ds Q' := by
  rcases rg2_iff q with ⟨n, rfl, q⟩ | ⟨a, b, rfl, q⟩
  · exact h _ _ q
  · exact h _ _ q
section
variable {X : Cx} {a b : Expr} {wa wb : W} {p p2 q pos : Pos}
theorem rg_1 (hg2 : Gl X "range") (hm2 : X.mg "range" = none) (ha : PEw X a wa) (na : starEach [a] X.env = (false, eval a X.env) :: starEach [] X.env) (Y : WX) (tk : Takes X Y) : PRg X (.Call (.Name "range" p2) [a] [] q) (tRg1 (tE (kf X) Y wa)) := prg_1 hg2 hm2 (ha.pe Y tk) na
theorem rg_2 (hg2 : Gl X "range") (hm2 : X.mg "range" = none) (ha : PEw X a wa) (hb : PEw X b wb) (na : starEach [a, b] X.env = (false, eval a X.env) :: starEach [b] X.env) (nb : starEach [b] X.env = (false, eval b X.env) :: starEach [] X.env)
    (hp : (backTo q (starEach [b] X.env)).any (·.1) = false) (Y : WX) (tk : Takes X Y) : PRg X (.Call (.Name "range" p2) [a, b] [] q) (tRg2 (tE (kf X) Y wa) (tE (kf X) Y wb)) := prg_2 hg2 hm2 (ha.pe Y tk) (hb.pe Y tk) na nb hp
theorem wLstR_mono {wr : WA} (m : MonoA wr) : MonoW (wLstR wr) := fun ρ S Q Q' h q => m _ _ _ _ (fun ds S1 q1 => rg2_mono (fun i j z => ⟨z.1, h _ _ z.2⟩) q1) q
theorem wTupR_mono {wr : WA} (m : MonoA wr) : MonoW (wTupR wr) := fun ρ S Q Q' h q => m _ _ _ _ (fun ds S1 q1 => rg2_mono (fun i j z => ⟨z.1, h _ _ z.2⟩) q1) q
theorem mono1 (ha : PEw X a wa) : MonoA (wCons wa wNil) := fun ρ S Q Q' h q => ha.mono _ _ _ _ (fun x S1 z => h _ _ z) q
theorem mono2 (ha : PEw X a wa) (hb : PEw X b wb) : MonoA (wCons wa (wCons wb wNil)) := fun ρ S Q Q' h q => ha.mono _ _ _ _ (fun x S1 z => hb.mono _ _ _ _ (fun y S2 z => h _ _ z) z) q
theorem rgk_1 {Y : WX} {σ : L2.St} {H : Hp} {Q : Int → Int → Hp → Prop} (ha : PEw X a wa) {ρ : Env} {ι : List Addr} {S : Sto} {G : Int → Int → Sto → Prop} (E : RepE (kf X) Y H ι σ ρ) (R : RepS (kf X) H ι S) (q : wCons wa wNil ρ S fun ds S1 => rg2 ds fun i j => G i j S1)
    (k : ∀ i j S1 H1 ι1, Tr H ι H1 ι1 → RepS (kf X) H1 ι1 S1 → G i j S1 → Q i j H1) : tRg1 (tE (kf X) Y wa) σ H Q :=
  tE_k ha.mono E R q fun d S1 v H1 ι1 T1 R1 r E1 q1 => by
    rcases rg2_iff q1 with ⟨n, e, q1⟩ | ⟨i, j, e, q1⟩
    · cases e
      cases r
      exact ⟨n, rfl, k 0 n S1 H1 ι1 T1 R1 q1⟩
    · cases e
theorem rgk_2 {Y : WX} {σ : L2.St} {H : Hp} {Q : Int → Int → Hp → Prop} (ha : PEw X a wa) (hb : PEw X b wb) {ρ : Env} {ι : List Addr} {S : Sto} {G : Int → Int → Sto → Prop} (E : RepE (kf X) Y H ι σ ρ) (R : RepS (kf X) H ι S) (q : wCons wa (wCons wb wNil) ρ S fun ds S1 => rg2 ds fun i j => G i j S1)
    (k : ∀ i j S1 H1 ι1, Tr H ι H1 ι1 → RepS (kf X) H1 ι1 S1 → G i j S1 → Q i j H1) : tRg2 (tE (kf X) Y wa) (tE (kf X) Y wb) σ H Q :=
  tE_k ha.mono E R q fun d S1 v H1 ι1 T1 R1 r E1 q1 => tE_k hb.mono E1 R1 q1 fun d2 S2 v2 H2 ι2 T2 R2 r2 E2 q2 => by
    rcases rg2_iff q2 with ⟨n, e, q2⟩ | ⟨i, j, e, q2⟩
    · cases e
    · cases e
      cases r
      cases r2
      exact ⟨i, j, rfl, rfl, k i j S2 H2 ι2 (T1.trans T2) R2 q2⟩
theorem pw_lstR1 (hc : X.calm = true) (hg : Gl X "list") (hm : X.mg "list" = none) (hg2 : Gl X "range") (hm2 : X.mg "range" = none) (ha : PEw X a wa) (na : starEach [a] X.env = (false, eval a X.env) :: starEach [] X.env) :
    PEw X (.Call (.Name "list" p) [.Call (.Name "range" p2) [a] [] q] [] pos) (wLstR (wCons wa wNil)) where
  mono := wLstR_mono (mono1 ha)
  pe := fun Y tk => PE.weak (pe_listRg hc hg hm (rg_1 hg2 hm2 ha na Y tk)) fun σ H Q ⟨ρ, ι, S, E, R, q⟩ => rgk_1 ha E R q fun i j S1 H1 ι1 T1 R1 q1 =>
    ⟨q1.1, fun p hp => q1.2 _ _ _ (T1.trans (Tr.alloc R1 hp)) (RepS.alloc R1 hp (rg_V i j)) (RepV.new R1)⟩
theorem pw_tupR1 (hc : X.calm = true) (hg : Gl X "tuple") (hm : X.mg "tuple" = none) (hg2 : Gl X "range") (hm2 : X.mg "range" = none) (ha : PEw X a wa) (na : starEach [a] X.env = (false, eval a X.env) :: starEach [] X.env) :
    PEw X (.Call (.Name "tuple" p) [.Call (.Name "range" p2) [a] [] q] [] pos) (wTupR (wCons wa wNil)) where
  mono := wTupR_mono (mono1 ha)
  pe := fun Y tk => PE.weak (pe_tupRg hc hg hm (rg_1 hg2 hm2 ha na Y tk)) fun σ H Q ⟨ρ, ι, S, E, R, q⟩ => rgk_1 ha E R q fun i j S1 H1 ι1 T1 R1 q1 =>
    ⟨q1.1, fun p hp => q1.2 _ _ _ (T1.trans (Tr.new R1 hp)) (RepS.new R1 hp) ⟨p, _, rfl, upd_same, rg_V i j⟩⟩
theorem pw_tupR2 (hc : X.calm = true) (hg : Gl X "tuple") (hm : X.mg "tuple" = none) (hg2 : Gl X "range") (hm2 : X.mg "range" = none) (ha : PEw X a wa) (hb : PEw X b wb) (na : starEach [a, b] X.env = (false, eval a X.env) :: starEach [b] X.env) (nb : starEach [b] X.env = (false, eval b X.env) :: starEach [] X.env)
    (hp : (backTo q (starEach [b] X.env)).any (·.1) = false) : PEw X (.Call (.Name "tuple" p) [.Call (.Name "range" p2) [a, b] [] q] [] pos) (wTupR (wCons wa (wCons wb wNil))) where
  mono := wTupR_mono (mono2 ha hb)
  pe := fun Y tk => PE.weak (pe_tupRg hc hg hm (rg_2 hg2 hm2 ha hb na nb hp Y tk)) fun σ H Q ⟨ρ, ι, S, E, R, q⟩ => rgk_2 ha hb E R q fun i j S1 H1 ι1 T1 R1 q1 =>
    ⟨q1.1, fun p hp => q1.2 _ _ _ (T1.trans (Tr.new R1 hp)) (RepS.new R1 hp) ⟨p, _, rfl, upd_same, rg_V i j⟩⟩
end

/-! ### dicts: a new one; get -/
def wDct : W := fun _ S Q => Q (.ref S.length) (S ++ [.dK false []]) ∨ Q (.ref S.length) (S ++ [.dT false []])
theorem pw_dct {X : Cx} {pos : Pos} : PEw X (.Dict [] [] pos) wDct where
  mono := fun ρ S Q Q' h q => q.elim (fun z => .inl (h _ _ z)) fun z => .inr (h _ _ z)
  pe := fun Y tk => PE.weak (PE.or pe_dnewK pe_dnewT) fun σ H Q ⟨ρ, ι, S, E, R, q⟩ => q.elim
    (fun z => .inl fun p hp => z _ _ _ (Tr.alloc R hp) (R.allocO (u := .dK false []) hp ⟨[], rfl, RepKV.nil⟩) (RepV.newO R _))
    (fun z => .inr fun p hp => z _ _ _ (Tr.alloc R hp) (R.allocO (u := .dT false []) hp ⟨[], rfl, RepKV.nil⟩) (RepV.newO R _))
def dctTy : D → Sto → Prop
  | .ref n, S => (∃ ds, S[n]? = some (.dK false ds)) ∨ ∃ ds, S[n]? = some (.dT false ds)
  | _, _ => False
theorem dctTy_V {K : KF} : ∀ x S v H ι, RepS K H ι S → RepV K H ι x v → dctTy x S → tyV K.K "dict" v H := fun x S v H ι R r h => by
  cases x <;> try exact h.elim
  rcases h with ⟨ds, e⟩ | ⟨ds, e⟩
  · obtain ⟨a, o, rfl, _, hx, xs, hz, _⟩ := R.obj r e
    cases (show o = .dK xs from hz)
    exact .inr (.inr (.inl ⟨rfl, .inl ⟨_, hx⟩⟩))
  · obtain ⟨a, o, rfl, _, hx, xs, hz, _⟩ := R.obj r e
    cases (show o = .dT xs from hz)
    exact .inr (.inr (.inl ⟨rfl, .inr ⟨_, hx⟩⟩))
def getM : MetD
  | .ref n, [y], S, Q => dGet n y S fun o => Q (o.getD .non) S
  | .ref n, [y, z], S, Q => dGet n y S fun o => Q (o.getD z) S
  | _, _, _, _ => False
def rGet : V → List V → Hp → VK → Prop := fun x xs H Q => (∃ a y o, x = .ref a ∧ xs = [y] ∧ DGet H a y o ∧ Q (o.getD .non) H) ∨ ∃ a y z o, x = .ref a ∧ xs = [y, z] ∧ DGet H a y o ∧ Q (o.getD z) H
theorem mt_get {X : Cx} (hu : X.A.units + 1 < cLine) : MtR X "dict.get" rGet := by
  intro pins s σ H x xs v us Q I rx rs h
  rcases h with ⟨a, y, o, rfl, rfl, g, q⟩ | ⟨a, y, z, o, rfl, rfl, g, q⟩
  · obtain rfl : v = Value.ref a := rx
    obtain ⟨u, rfl, ru⟩ := vals1 rs
    exact d_get1 hu I g ru fun w' s' I' rw' => ⟨_, H, I', rw', q⟩
  · obtain rfl : v = Value.ref a := rx
    obtain ⟨u1, u2, rfl, r1, r2⟩ := vals2 rs
    exact d_get2 hu I g r1 r2 fun w' s' I' rw' => ⟨_, H, I', rw', q⟩
theorem getM_S {X : Cx} (hu : X.A.units + 1 < cLine) : MetS X "dict" "dict.get" dctTy getM where
  mono := fun x ds S Q Q' h q => by
    unfold getM at q ⊢
    split at q
    · exact dGet_mono (fun o z => h _ _ z) q
    · exact dGet_mono (fun o z => h _ _ z) q
    · exact q.elim
  ty_ := dctTy_V
  rd := ⟨_, mt_get hu, fun x ds S Q v vs H ι QV R rx rs q k => by
    unfold getM at q
    split at q
    · obtain ⟨w, r, rfl, rv, rr⟩ := rs
      cases rr
      obtain ⟨a, o, r, rfl, g, q, ho⟩ := dGet_V R rx rv q
      refine .inl ⟨a, w, r, rfl, rfl, g, ?_⟩
      rcases ho with ⟨rfl, rfl⟩ | ⟨d, v, rfl, rfl, rd⟩
      · exact k.here R (d := .non) rfl q
      · exact k.here R rd q
    · obtain ⟨w, r, rfl, rv, w2, r2, rfl, rv2, rr⟩ := rs
      cases rr
      obtain ⟨a, o, r, rfl, g, q, ho⟩ := dGet_V R rx rv q
      refine .inr ⟨a, w, w2, r, rfl, rfl, g, ?_⟩
      rcases ho with ⟨rfl, rfl⟩ | ⟨d, v, rfl, rfl, rd⟩
      · exact k.here R rv2 q
      · exact k.here R rd q
    · exact q.elim⟩
end WW


set_option Elab.async false
set_option linter.all false
set_option maxRecDepth 100000
set_option maxHeartbeats 4000000
set_option autoImplicit false
namespace WW
open PySem PySem.Spec PyProof.Rows L2

/-! ### own classes: fields, methods, new instances -/
def putFA {α : Type} (f : Str) (v : α) : List (Str × α) → List (Str × α)
  | [] => [(f, v)]
  | (g, x) :: r => if g = f then (g, v) :: r else (g, x) :: putFA f v r
theorem RepKV.putF {K : KF} {H : Hp} {ι : List Addr} {f : Str} {d : D} {v : V} (r : RepV K H ι d v) : ∀ {fs : List (Str × D)} {vs : List (Str × V)}, RepKV K H ι fs vs → RepKV K H ι (putFA f d fs) (L2.putF f v vs)
  | [], _, h => by rw [h.cases_nil]; exact RepKV.cons r RepKV.nil
  | p :: q, _, h => by
    obtain ⟨u, s, rfl, h1, h2⟩ := h.uncons
    obtain ⟨g, x⟩ := p
    unfold putFA L2.putF
    by_cases e : g = f
    · rw [if_pos e, if_pos e]
      exact RepKV.cons r h2
    · rw [if_neg e, if_neg e]
      exact RepKV.cons h1 (RepKV.putF r h2)
def fldD (cs : List Str) (f : Str) : D → Sto → Q1 → Prop
  | .ref n, S, Q => ∃ c fs, S[n]? = some (.ins c fs) ∧ c ∈ cs ∧ gv (fs.lookup f) fun v => Q v S
  | _, _, _ => False
def wFld (cs : List Str) (f : Str) (a : W) : W := fun ρ S Q => a ρ S fun d S1 => fldD cs f d S1 Q
theorem fldD_mono {cs : List Str} {f : Str} {d : D} {S : Sto} {Q Q' : Q1} (h : ∀ d S, Q d S → Q' d S) (q : fldD cs f d S Q) : fldD cs f d S Q' := by
  cases d <;> try exact q.elim
  obtain ⟨c, fs, e1, e2, q⟩ := q
  obtain ⟨v, e3, q⟩ := gv_iff.mp q
  exact ⟨c, fs, e1, e2, gv_iff.mpr ⟨v, e3, h _ _ q⟩⟩
/-- what is known of a class and one of its fields -/
def FldOk (X : Cx) (c f : Str) : Prop := Cls X.K ((kf X).cl c) ∧ NoAttr X.K ((kf X).cl c) f
section
variable {X : Cx} {a : Expr} {w : W} {pos : Pos}
theorem pw_fld {cs : List Str} {f : Str} (hF : ∀ c ∈ cs, FldOk X c f) (ha : PEw X a w) (hb : attributeBase a f X.env (eval a X.env) = eval a X.env) : PEw X (.Attribute a f pos) (wFld cs f w) where
  mono := fun ρ S Q Q' h q => ha.mono _ _ _ _ (fun d S1 q1 => fldD_mono h q1) q
  pe := fun Y tk => PE.weak (pe_fld (ha.pe Y tk) hb) fun σ H Q ⟨ρ, ι, S, E, R, q⟩ => tE_k ha.mono E R q fun d S1 v H1 ι1 T1 R1 r E1 q1 => by
    cases d <;> try exact q1.elim
    obtain ⟨c, fs, e1, e2, q2⟩ := q1
    obtain ⟨y, e3, q3⟩ := gv_iff.mp q2
    obtain ⟨p, dx, xs, rfl, hi, hx, rr⟩ := R1.inst r e1
    obtain ⟨h1, h2⟩ := hF c e2
    rcases rr.look (k := f) with ⟨g1, _⟩ | ⟨d', v', g1, g2, g3⟩
    · rw [e3] at g1; cases g1
    · rw [e3] at g1
      cases g1
      exact ⟨p, _, dx, xs, v', rfl, hx, h1, h2, g2, q3 v' H1 ι1 T1 R1 g3⟩
def fsetD (cs : List Str) (f : Str) (y : D) : D → Sto → (Sto → Prop) → Prop
  | .ref n, S, Q => ∃ c fs, S[n]? = some (.ins c fs) ∧ c ∈ cs ∧ fs.length < 1000 ∧ Q (S.set n (.ins c (putFA f y fs)))
  | _, _, _ => False
def wFSet (cs : List Str) (f : Str) (o v : W) : WS := fun k ρ S => v (k.en ρ) S fun y S1 => o (k.en ρ) S1 fun x S2 => fsetD cs f y x S2 fun S3 => k.nx ρ S3
theorem pw_fset {cs : List Str} {f : Str} {o e : Expr} {wo we : W} {pos' : Pos} (hF : ∀ c ∈ cs, FldOk X c f) (ho : PEw X o wo) (he : PEw X e we) (hs : swapsWith e (some (.Attribute o f pos')) pos.line X.env = pure false) : PSw X (.Assign [.Attribute o f pos'] e pos) (wFSet cs f wo we) where
  mono := fun ρ S k k' e h1 h2 h3 h4 q => by
    show we (k'.en ρ) S _
    rw [en_eq e]
    refine he.mono _ _ _ _ (fun y S1 z => ho.mono _ _ _ _ (fun x S2 z => ?_) z) q
    cases x <;> try exact z.elim
    obtain ⟨c, fs, a, b, d, z⟩ := z
    exact ⟨c, fs, a, b, d, h1 _ _ z⟩
  ps := fun Y tk => PS.weak (ps_fld (ho.pe Y tk) (he.pe Y tk) hs) fun E σ H ⟨k, ρ, ι, S, Er, R, D, q⟩ => tE_k he.mono (D.en R Er) R q fun y S1 vy H1 ι1 T1 R1 ry E1 q1 =>
    tE_k ho.mono E1 R1 q1 fun x S2 vx H2 ι2 T2 R2 rx E2 q2 => by
      cases x <;> try exact q2.elim
      obtain ⟨c, fs, e1, e2, e3, q3⟩ := q2
      obtain ⟨p, dx, xs, rfl, hi, hx, rr⟩ := R2.inst rx e1
      obtain ⟨h1, h2⟩ := hF c e2
      exact ⟨p, _, dx, xs, rfl, hx, h1, h2, by rw [← rr.length]; exact e3, D.nx ρ _ σ _ ι2 ((T1.trans T2).trans (Tr.write R2 hi (nfz hx))) (R2.writeO (u := .ins c (putFA f y fs)) hi ⟨dx, _, rfl, RepKV.putF (RepV.tr R1 T2 _ _ ry) rr⟩) (E2.r.tr R2 (Tr.write R2 hi (nfz hx))) q3⟩

theorem meth_eq {o : Expr} {m : Str} {apos pos : Pos} {args : List Expr} {env : PySem.Env} (hb : attributeBase o m env (eval o env) = eval o env)
    (hfew : methodCallForm (args.length + ([] : List Keyword).length) (backTo pos (starEach args env)) (backToKw pos (keywordEach [] env)) = true) (hl : (apos.endLine == pos.line) = true) :
    eval (.Call (.Attribute o m apos) args [] pos) env = (do
      let ov ← eval o env
      standAt apos.atName
      let (f, first) ← holding [ov] (getMethod ov m (do return (← importBound o env).getD true))
      callWith pos f first (backTo pos (starEach args env)) (backToKw pos (keywordEach [] env))) := by
  rw [arm_eval_Call, hb]
  have hpos : methodCallPos true o env apos pos = pure pos := by unfold methodCallPos; simp [hl]
  unfold methodCall
  rw [hfew, hpos]
  rfl
/-- what is known of a class and one of its methods, of n arguments beside self -/
structure MthOk (X : Cx) (c m : Str) (n : Nat) (sp : Spec) : Prop where
  ok : ∃ k f fd ps, FnOk X.prog X.w X.K X.mg X.base CX0 k f fd ps (spOf (kf X) (n + 1) sp) ∧ Room k X.A ∧ Cls X.K ((kf X).cl c) ∧ Meth X.K ((kf X).cl c) m f ∧ Binds X.K fd ps []
def mthD (c m : Str) : D → Sto → Prop
  | .ref n, S => ∃ fs, S[n]? = some (.ins c fs) ∧ fs.lookup m = none
  | _, _ => False
def wMth (c m : Str) (n : Nat) (sp : Spec) (o : W) (a : WA) : W := fun ρ S Q => o ρ S fun x S1 => mthD c m x S1 ∧ a ρ S1 fun ds S2 => callS (n + 1) sp (x :: ds) S2 Q
theorem wMth_mono {c m : Str} {n : Nat} {sp : Spec} {wo : W} {wr : WA} (h1 : MonoW wo) (h2 : MonoA wr) : MonoW (wMth c m n sp wo wr) := fun ρ S Q Q' h q => h1 _ _ _ _ (fun x S1 z => ⟨z.1, h2 _ _ _ _ (fun ds S2 z => callS_mono h z) z.2⟩) q
theorem mthD_V {K : KF} {H : Hp} {ι : List Addr} {S : Sto} {x : D} {v : V} {c m : Str} (R : RepS K H ι S) (r : RepV K H ι x v) (q : mthD c m x S) : ∃ a dx fs, v = .ref a ∧ H a = some (.ins (K.cl c) dx fs) ∧ fs.lookup m = none := by
  cases x <;> try exact q.elim
  obtain ⟨fs, e1, e2⟩ := q
  obtain ⟨p, dx, xs, rfl, hi, hx, rr⟩ := R.inst r e1
  refine ⟨p, dx, xs, rfl, hx, ?_⟩
  rcases rr.look (k := m) with ⟨_, g⟩ | ⟨d', v', g1, _⟩
  · exact g
  · rw [e2] at g1; cases g1
theorem pw_mth {c m : Str} {n : Nat} {sp : Spec} {o e : Expr} {es : List Expr} {wo : W} {wr : WA} {apos : Pos} (M : MthOk X c m n sp) (ho : PEw X o wo) (ha : PAw X (e :: es) wr) (hb : attributeBase o m X.env (eval o X.env) = eval o X.env)
    (hfew : methodCallForm ((e :: es).length + ([] : List Keyword).length) (backTo pos (starEach (e :: es) X.env)) (backToKw pos (keywordEach [] X.env)) = true) (hl : (apos.endLine == pos.line) = true)
    (hst : starEach (e :: es) X.env = (false, eval e X.env) :: starEach es X.env) (hpl : (backTo pos (starEach es X.env)).any (·.1) = false) : PEw X (.Call (.Attribute o m apos) (e :: es) [] pos) (wMth c m n sp wo wr) where
  mono := wMth_mono ho.mono ha.mono
  pe := fun Y tk => by
    obtain ⟨k, f, fd, ps, F, hr, hc, hm, hbn⟩ := M.ok
    refine PE.weak (pe_meth (ho.pe Y tk) hc hm F hr hbn .nil pass0 (ha.pe Y tk) hst hpl (meth_eq hb hfew hl)) fun σ H Q ⟨ρ, ι, S, E, R, q⟩ => tE_k ho.mono E R q fun x S1 vx H1 ι1 T1 R1 rx E1 q1 => ?_
    obtain ⟨a, dx, fs, rfl, h1, h2⟩ := mthD_V R1 rx q1.1
    refine ⟨a, dx, fs, rfl, h1, h2, tA_k ha.mono E1 R1 q1.2 fun ds S2 vs H2 ι2 T2 R2 rs E2 q2 => ?_⟩
    rw [List.append_nil]
    exact ⟨ι2, S2, x :: ds, R2, ⟨_, _, rfl, RepV.tr R1 T2 _ _ rx, rs⟩, callS_mono (fun d S3 q3 v H3 ι3 T3 R3 r => q3 v H3 ι3 ((T1.trans T2).trans T3) R3 r) q2⟩
theorem pw_mth0 {c m : Str} {sp : Spec} {o : Expr} {wo : W} {apos : Pos} (M : MthOk X c m 0 sp) (ho : PEw X o wo) (hb : attributeBase o m X.env (eval o X.env) = eval o X.env) (hl : (apos.endLine == pos.line) = true) :
    PEw X (.Call (.Attribute o m apos) [] [] pos) (wMth c m 0 sp wo wNil) where
  mono := wMth_mono ho.mono fun ρ S Q Q' h q => h _ _ q
  pe := fun Y tk => by
    obtain ⟨k, f, fd, ps, F, hr, hc, hm, hbn⟩ := M.ok
    refine PE.weak (pe_meth0 (ho.pe Y tk) hc hm F hr hbn .nil pass0 (meth_eq hb rfl hl)) fun σ H Q ⟨ρ, ι, S, E, R, q⟩ => tE_k ho.mono E R q fun x S1 vx H1 ι1 T1 R1 rx E1 q1 => ?_
    obtain ⟨a, dx, fs, rfl, h1, h2⟩ := mthD_V R1 rx q1.1
    refine ⟨a, dx, fs, rfl, h1, h2, ?_⟩
    show spOf (kf X) (0 + 1) sp [V.ref a] H1 Q E0
    exact ⟨ι1, S1, [x], R1, RepVs.one rx, callS_mono (fun d S3 q3 v H3 ι3 T3 R3 r => q3 v H3 ι3 (T1.trans T3) R3 r) q1.2⟩
/-- what is known of a class's making -/
structure MakOk (X : Cx) (c : Str) (n : Nat) (sp : Spec) : Prop where
  ok : ∃ k C f fd ps, FnOk X.prog X.w X.K X.mg X.base CX0 k f fd ps (spOf (kf X) (n + 1) sp) ∧ Room (k + 1) X.A ∧ X.mg c = some (.ref C) ∧ Mk X.K C f ∧ Binds X.K fd ps []
def wMak (c : Str) (n : Nat) (sp : Spec) (a : WA) : W := fun ρ S Q => a ρ S fun ds S1 => callS (n + 1) sp (.ref S1.length :: ds) (S1 ++ [.ins c []]) fun d S2 => d = .non ∧ Q (.ref S1.length) S2
theorem wMak_mono {c : Str} {n : Nat} {sp : Spec} {wr : WA} (h2 : MonoA wr) : MonoW (wMak c n sp wr) := fun ρ S Q Q' h q => h2 _ _ _ _ (fun ds S1 z => callS_mono (fun d S2 z => ⟨z.1, h _ _ z.2⟩) z) q
theorem mak_k {K : KF} {H H0 : Hp} {ι ι0 : List Addr} {S : Sto} {c : Str} {C : Addr} {n : Nat} {sp : Spec} {ds : List D} {vs : List V} {Q : VK} {G : Q1} (hC : K.cl c = C) (R : RepS K H ι S) (rs : RepVs K H ι ds vs) (T0 : Tr H0 ι0 H ι)
    (q : callS (n + 1) sp (.ref S.length :: ds) (S ++ [.ins c []]) fun d S2 => d = .non ∧ ∀ v H' ι', Tr H0 ι0 H' ι' → RepS K H' ι' S2 → RepV K H' ι' (.ref S.length) v → Q v H') (x dx : Addr) (hx : H x = none) (hdx : H dx = none) (ne : dx ≠ x) :
    spOf K (n + 1) sp (.ref x :: (vs ++ [])) (upd (upd H dx (.own x)) x (.ins C dx [])) (fun v H2 => v = .non ∧ Q (.ref x) H2) E0 := by
  rw [List.append_nil]
  have T1 : Tr H ι (upd H dx (.own x)) ι := Tr.new R hdx
  have R1 : RepS K (upd H dx (.own x)) ι S := R.new hdx
  have hx1 : (upd H dx (.own x)) x = none := by rw [upd_ne (Ne.symm ne)]; exact hx
  have T2 := Tr.alloc (o := .ins C dx []) R1 hx1
  have R2 := R1.allocO (u := .ins c []) hx1 ⟨dx, [], by rw [hC], RepKV.nil⟩
  have T12 := T1.trans T2
  refine ⟨ι ++ [x], S ++ [.ins c []], .ref S.length :: ds, R2, ⟨_, _, rfl, RepV.newO R _, RepVs.tr R T12 _ _ rs⟩, callS_mono (fun d S3 q3 v H3 ι3 T3 R3 r => ?_) q⟩
  obtain ⟨rfl, q3⟩ := q3
  cases r
  refine ⟨rfl, q3 _ H3 ι3 ((T0.trans T12).trans T3) R3 ⟨x, ?_, rfl⟩⟩
  exact T3.get (by rw [← R.len]; simp)
theorem pw_mak {c : Str} {n : Nat} {sp : Spec} {e : Expr} {es : List Expr} {wr : WA} {p : Pos} (M : MakOk X c n sp) (hg : Gl X c) (ha : PAw X (e :: es) wr) (hdb : (c == ("__debug__" : Str)) = false)
    (hst : starEach (e :: es) X.env = (false, eval e X.env) :: starEach es X.env) (hpl : (backTo pos (starEach es X.env)).any (·.1) = false) : PEw X (.Call (.Name c p) (e :: es) [] pos) (wMak c n sp wr) where
  mono := wMak_mono ha.mono
  pe := fun Y tk => by
    obtain ⟨k, C, f, fd, ps, F, hr, hm, hM, hbn⟩ := M.ok
    refine PE.weak (pe_make hM F hr hg hm hbn .nil pass0 (ha.pe Y tk) hdb hst hpl) fun σ H Q ⟨ρ, ι, S, E, R, q⟩ => tA_k ha.mono E R q fun ds S1 vs H1 ι1 T1 R1 rs E1 q1 => ?_
    exact fun x dx hx hdx ne => mak_k (G := fun _ _ => True) (show (kf X).cl c = C by show clOf X.mg c = C; unfold clOf; rw [hm]) R1 rs T1 q1 x dx hx hdx ne
theorem pw_mak0 {c : Str} {sp : Spec} {p : Pos} (M : MakOk X c 0 sp) (hg : Gl X c) (hdb : (c == ("__debug__" : Str)) = false) : PEw X (.Call (.Name c p) [] [] pos) (wMak c 0 sp wNil) where
  mono := wMak_mono fun ρ S Q Q' h q => h _ _ q
  pe := fun Y tk => by
    obtain ⟨k, C, f, fd, ps, F, hr, hm, hM, hbn⟩ := M.ok
    refine PE.weak (pe_make0 hM F hr hg hm hbn .nil pass0 hdb) fun σ H Q ⟨ρ, ι, S, E, R, q⟩ => ?_
    exact fun x dx hx hdx ne => mak_k (vs := []) (G := fun _ _ => True) (show (kf X).cl c = C by show clOf X.mg c = C; unfold clOf; rw [hm]) R (ds := []) (show RepVs (kf X) H ι [] [] from rfl) (Tr.refl _ _) q x dx hx hdx ne
end
end WW


set_option Elab.async false
set_option linter.all false
set_option maxRecDepth 100000
set_option maxHeartbeats 4000000
set_option autoImplicit false
namespace WW
open PySem PySem.Spec PyProof.Rows L2

/-! ### loops over the keys of a dict: the dict is locked meanwhile -/
def unlK (k : KK) (n : Nat) (o : O) : KK := ⟨fun ρ S => k.nx ρ (S.set n o), fun d S => k.rt d (S.set n o), fun ρ S => k.bk ρ (S.set n o), fun ρ S => k.ct ρ (S.set n o), k.ex⟩
def forD (p : Pat) (b : WS) (k : KK) (ρ : Rho) : D → Sto → Prop
  | .ref n, S => (∃ kvs, S[n]? = some (.dK false kvs) ∧ forGo (fun _ => True) p b (unlK k n (.dK false kvs)) (kvs.map fun kv => kD kv.1) ρ (S.set n (.dK true kvs))) ∨
    ∃ kvs, S[n]? = some (.dT false kvs) ∧ forGo (fun _ => True) p b (unlK k n (.dT false kvs)) (kvs.map fun kv => .tup (kv.1.map kD)) ρ (S.set n (.dT true kvs))
  | _, _ => False
/-- over what stands in slot i: a dict's keys, or a sequence -/
def wForD (i : Nat) (p : Pat) (b : WS) : WS := fun k ρ S => gv (look ρ i) fun d => forD p b k ρ d S
theorem kD_V {K : KF} {H : Hp} {ι : List Addr} (k : Key) : RepV K H ι (kD k) (kV k) := by
  cases k <;> exact rfl
theorem kDs_V {K : KF} {H : Hp} {ι : List Addr} : ∀ ks : List Key, RepVs K H ι (ks.map kD) (ks.map kV)
  | [] => rfl
  | k :: r => ⟨_, _, rfl, kD_V k, kDs_V r⟩
section
variable {K : KF} {H H0 H' : Hp} {ι ι0 ι' : List Addr} {S S' : Sto} {a : Addr} {o : HO} {n : Nat} {σ : L2.St} {ρ : Rho}
/-- the lock goes: what is true of the heap behind it -/
theorem unl_tr (T : Tr H ι H' ι') (hi : ι[n]? = some a) (hz : NFz H a) : Tr H ι (upd H' a o) ι' :=
  ⟨T.ext, fun b u e hn => by
    rw [upd_ne (fun z => hn (by subst z; exact List.mem_of_getElem? hi))]
    exact T.keep b u e hn, fun b ob u e => by
    rw [upd_ne (fun z => by subst z; exact hz ob u e)]
    exact T.frz b ob u e⟩
theorem upd_kp (hi : ι'[n]? = some a) : ∀ (b : Addr) (u : HO), H' b = some u → b ∉ ι' → (upd H' a o) b = some u := fun b u e hn => by
  rw [upd_ne (fun z => hn (by subst z; exact List.mem_of_getElem? hi))]
  exact e
theorem RepR.upd (R : RepS K H' ι' S') (hi : ι'[n]? = some a) (h : RepR K H' ι' σ ρ) : RepR K (upd H' a o) ι' σ ρ :=
  ⟨h.len, fun i d e => let ⟨v, q, r⟩ := h.at_ i d e; ⟨v, q, RepV.tr0 R id (upd_kp hi) d v r⟩⟩
theorem itok_keys {od : Obj} {kvs : List (Key × D)} {xs : List (Key × V)} (h : H a = some (.frz od (.dK xs))) (rr : RepKV K H ι kvs xs) : ItOk K H ι (Itk a od xs) ⟨kvs.map fun kv => kD kv.1, fun _ => True⟩ := fun i H1 ι1 S1 T R st => by
  have h1 := T.frz _ _ _ h
  have hl := rr.length
  refine ⟨fun d hd => ?_, fun hz => ⟨h1, by rw [← hl]; simpa using hz⟩⟩
  rw [List.getElem?_map] at hd
  cases q : kvs[i]? with
  | none => rw [q] at hd; cases hd
  | some kv =>
    rw [q] at hd
    cases hd
    have hlt : i < xs.length := by rw [← hl]; exact (List.getElem?_eq_some_iff.mp q).1
    refine ⟨⟨h1, hlt⟩, fun y H2 hy => ?_⟩
    obtain ⟨rfl, k, v, e, rfl⟩ := hy
    refine ⟨Tr.refl _ _, R, ?_⟩
    have e1 : (kvs.map (·.1))[i]? = (xs.map (·.1))[i]? := by rw [rr.1]
    rw [List.getElem?_map, List.getElem?_map, q, e] at e1
    injection e1 with e1
    have e2 : kv.1 = k := e1
    rw [← e2]
    exact kD_V kv.1
theorem itok_keysT {od : Obj} {kvs : List (List Key × D)} {xs : List (List Key × V)} (h : H a = some (.frz od (.dT xs))) (rr : RepKV K H ι kvs xs) : ItOk K H ι (Itkt a od xs) ⟨kvs.map fun kv => .tup (kv.1.map kD), fun _ => True⟩ := fun i H1 ι1 S1 T R st => by
  have h1 := T.frz _ _ _ h
  have hl := rr.length
  refine ⟨fun d hd => ?_, fun hz => ⟨h1, by rw [← hl]; simpa using hz⟩⟩
  rw [List.getElem?_map] at hd
  cases q : kvs[i]? with
  | none => rw [q] at hd; cases hd
  | some kv =>
    rw [q] at hd
    cases hd
    have hlt : i < xs.length := by rw [← hl]; exact (List.getElem?_eq_some_iff.mp q).1
    refine ⟨⟨h1, hlt⟩, fun y H2 hy => ?_⟩
    obtain ⟨rfl, k, v, b, e, rfl, hb⟩ := hy
    refine ⟨Tr.refl _ _, R, ?_⟩
    have e1 : (kvs.map (·.1))[i]? = (xs.map (·.1))[i]? := by rw [rr.1]
    rw [List.getElem?_map, List.getElem?_map, q, e] at e1
    injection e1 with e1
    have e2 : kv.1 = k := e1
    rw [← e2] at hb
    exact ⟨b, _, rfl, hb, kDs_V _⟩
end
theorem forD_mono {u : WS} {p : Pat} (hb : MonoS u) {k k' : KK} {ρ : Rho} {d : D} {S : Sto} (e : k'.ex = k.ex) (h1 : ∀ ρ S, k.nx ρ S → k'.nx ρ S) (h2 : ∀ d S, k.rt d S → k'.rt d S) (q : forD p u k ρ d S) : forD p u k' ρ d S := by
  cases d <;> try exact q.elim
  rcases q with ⟨kvs, a, q⟩ | ⟨kvs, a, q⟩
  · exact .inl ⟨kvs, a, forGo_mono hb _ (unlK k _ _) (unlK k' _ _) _ _ e (fun ρ S z => h1 _ _ z) (fun d S z => h2 _ _ z) q⟩
  · exact .inr ⟨kvs, a, forGo_mono hb _ (unlK k _ _) (unlK k' _ _) _ _ e (fun ρ S z => h1 _ _ z) (fun d S z => h2 _ _ z) q⟩
section
variable {X : Cx} {u : WS} {p : Pat} {pos px : Pos}
/-- the ends of a locked loop -/
theorem unl_ed {Y : WX} {E : Ends} {k : KK} {H H2 : Hp} {ι ι2 : List Addr} {S : Sto} {a : Addr} {n : Nat} {hu : HO} {o : O} {od : Obj} (D : Ed (kf X) Y H ι k E) (R : RepS (kf X) H ι S) (hi : ι[n]? = some a) (hx : H a = some hu) (hz : NFz H a) (hb : Bear (kf X) H ι o hu)
    (T : Tr H ι H2 ι2) (hf : H2 a = some (.frz od hu)) :
    Ed (kf X) Y H2 ι2 (unlK k n o) ⟨fun σ' H' => H' a = some (.frz od hu) ∧ E.nx σ' (upd H' a hu), fun v H' => H' a = some (.frz od hu) ∧ E.rt v (upd H' a hu), fun σ' H' => H' a = some (.frz od hu) ∧ E.bk σ' (upd H' a hu), fun σ' H' => H' a = some (.frz od hu) ∧ E.ct σ' (upd H' a hu)⟩ := by
  have key : ∀ {S' H' ι'}, Tr H2 ι2 H' ι' → RepS (kf X) H' ι' S' → Tr H ι (upd H' a hu) ι' ∧ RepS (kf X) (upd H' a hu) ι' (S'.set n o) ∧ ι'[n]? = some a := fun T' R' => by
    have T2 := T.trans T'
    exact ⟨unl_tr T2 hi hz, R'.writeO (T2.get hi) (hb.tr R T2), T2.get hi⟩
  refine ⟨fun ρ S' σ H' ι' T' R' Er q => ?_, fun d S' v H' ι' T' R' r q => ?_, fun ρ S' σ H' ι' T' R' Er q => ?_, fun ρ S' σ H' ι' T' R' Er q => ?_, D.ex.tr T⟩
  · obtain ⟨k1, k2, k3⟩ := key T' R'
    exact ⟨T'.frz _ _ _ hf, D.nx ρ _ σ _ ι' k1 k2 (Er.upd R' k3) q⟩
  · obtain ⟨k1, k2, k3⟩ := key T' R'
    exact ⟨T'.frz _ _ _ hf, D.rt d _ v _ ι' k1 k2 (RepV.tr0 R' id (upd_kp k3) d v r) q⟩
  · obtain ⟨k1, k2, k3⟩ := key T' R'
    exact ⟨T'.frz _ _ _ hf, D.bk ρ _ σ _ ι' k1 k2 (Er.upd R' k3) q⟩
  · obtain ⟨k1, k2, k3⟩ := key T' R'
    exact ⟨T'.frz _ _ _ hf, D.ct ρ _ σ _ ι' k1 k2 (Er.upd R' k3) q⟩
theorem pw_forD {i : Nat} {x : Str} {tg : Expr} {body : List Stmt} (hp : PassesOwn (model X.prog X.w) X.A X.env X.xe) (hcalm : X.calm = true) (hv : PEw X (.Name x px) (wVar i)) (hg : PG X tg (gP X.K p)) (hb : PBw X body u) : PSw X (.For tg (.Name x px) body [] pos) (wForD i p u) where
  mono := fun ρ S k k' e h1 h2 h3 h4 q => by
    obtain ⟨d, a, q⟩ := gv_iff.mp q
    exact gv_iff.mpr ⟨d, a, forD_mono hb.mono e h1 h2 q⟩
  ps := fun Y tk => PS.weak (ps_lock (ps_for hp hcalm (pi_keys (hv.pe Y tk)) hg (hb.ps Y tk) (fun _ => rfl))) fun E σ H ⟨k, ρ, ι, S, Er, R, D, q⟩ => by
    obtain ⟨d, ed, q⟩ := gv_iff.mp q
    obtain ⟨v, _, rv⟩ := Er.at_ i d ed
    cases d <;> try exact q.elim
    rcases q with ⟨kvs, e1, q⟩ | ⟨kvs, e1, q⟩
    · obtain ⟨a, o, rfl, hi, hx, xs, hz, rr⟩ := R.obj rv e1
      cases (show o = .dK xs from hz)
      refine ⟨a, _, hx, trivial, fun od => ?_⟩
      have T1 : Tr H ι (upd H a (.frz od (.dK xs))) ι := Tr.write R hi (nfz hx)
      have R1 := R.writeO (o := .frz od (.dK xs)) (u := .dK true kvs) hi ⟨xs, ⟨od, rfl⟩, rr⟩
      refine tE_k hv.mono (ρ := k.en ρ) ⟨Er.tr R T1, fun c fs S' H' ι' cls d T R' xr z => D.ex c fs ρ S' σ H' ι' cls d (T1.trans T) R' ((Er.tr R T1).tr R1 T) xr z⟩ R1 (G := fun d S' => d = .ref _ ∧ S' = _) (gv_iff.mpr ⟨_, ed, rfl, rfl⟩) fun d S2 v2 H2 ι2 T2 R2 r2 E2 q2 => ?_
      obtain ⟨rfl, rfl⟩ := q2
      obtain ⟨a2, h2, rfl⟩ := r2
      rw [T2.get hi] at h2
      cases h2
      have hf := T2.frz _ _ _ (upd_same (H := H) (a := a) (o := .frz od (.dK xs)))
      refine ⟨a, od, rfl, .inl ⟨xs, hf, ?_⟩⟩
      exact for_core (unl_ed (o := .dK false kvs) D R hi hx (nfz hx) ⟨xs, rfl, rr⟩ (T1.trans T2) hf) E2.r R2 (itok_keys hf (rr.tr R (T1.trans T2))) q
    · obtain ⟨a, o, rfl, hi, hx, xs, hz, rr⟩ := R.obj rv e1
      cases (show o = .dT xs from hz)
      refine ⟨a, _, hx, trivial, fun od => ?_⟩
      have T1 : Tr H ι (upd H a (.frz od (.dT xs))) ι := Tr.write R hi (nfz hx)
      have R1 := R.writeO (o := .frz od (.dT xs)) (u := .dT true kvs) hi ⟨xs, ⟨od, rfl⟩, rr⟩
      refine tE_k hv.mono (ρ := k.en ρ) ⟨Er.tr R T1, fun c fs S' H' ι' cls d T R' xr z => D.ex c fs ρ S' σ H' ι' cls d (T1.trans T) R' ((Er.tr R T1).tr R1 T) xr z⟩ R1 (G := fun d S' => d = .ref _ ∧ S' = _) (gv_iff.mpr ⟨_, ed, rfl, rfl⟩) fun d S2 v2 H2 ι2 T2 R2 r2 E2 q2 => ?_
      obtain ⟨rfl, rfl⟩ := q2
      obtain ⟨a2, h2, rfl⟩ := r2
      rw [T2.get hi] at h2
      cases h2
      have hf := T2.frz _ _ _ (upd_same (H := H) (a := a) (o := .frz od (.dT xs)))
      refine ⟨a, od, rfl, .inr ⟨xs, hf, ?_⟩⟩
      exact for_core (unl_ed (o := .dT false kvs) D R hi hx (nfz hx) ⟨xs, rfl, rr⟩ (T1.trans T2) hf) E2.r R2 (itok_keysT hf (rr.tr R (T1.trans T2))) q
/-- two readings of one statement -/
def wOrS (a b : WS) : WS := fun k ρ S => a k ρ S ∨ b k ρ S
theorem pw_orS {st : Stmt} {a b : WS} (h : PSw X st a) (g : PSw X st b) : PSw X st (wOrS a b) where
  mono := fun ρ S k k' e h1 h2 h3 h4 q => q.elim (fun z => .inl (h.mono ρ S k k' e h1 h2 h3 h4 z)) fun z => .inr (g.mono ρ S k k' e h1 h2 h3 h4 z)
  ps := fun Y tk => PS.weak (PS.or (h.ps Y tk) (g.ps Y tk)) fun E σ H ⟨k, ρ, ι, S, Er, R, D, q⟩ => q.elim (fun z => .inl ⟨k, ρ, ι, S, Er, R, D, z⟩) fun z => .inr ⟨k, ρ, ι, S, Er, R, D, z⟩
/-- for .. in x, x a name: a sequence, or a dict's keys -/
def wForN (i : Nat) (p : Pat) (b : WS) : WS := fun k ρ S => gv (look ρ i) fun d => (srcD d S fun s => forGo s.stab p b k s.items ρ S) ∨ forD p b k ρ d S
theorem forN_iff {i : Nat} {b : WS} {k : KK} {ρ : Rho} {S : Sto} : wForN i p b k ρ S ↔ wOrS (wFor (wSeqI (wVar i)) p b) (wForD i p b) k ρ S := by
  unfold wForN wOrS wFor wSeqI wVar wForD KK.en
  cases look ρ i with
  | none => exact ⟨fun h => h.elim, fun h => h.elim id id⟩
  | some d => exact Iff.rfl
theorem pw_forN {i : Nat} {x : Str} {tg : Expr} {body : List Stmt} (hp : PassesOwn (model X.prog X.w) X.A X.env X.xe) (hcalm : X.calm = true) (hv : PEw X (.Name x px) (wVar i)) (hg : PG X tg (gP X.K p)) (hb : PBw X body u) : PSw X (.For tg (.Name x px) body [] pos) (wForN i p u) := by
  have h := pw_orS (pw_for hp hcalm (pw_seqI hv) hg hb (fun _ => rfl)) (pw_forD (px := px) (pos := pos) hp hcalm hv hg hb)
  exact ⟨fun ρ S k k' e h1 h2 h3 h4 q => forN_iff.mpr (h.mono ρ S k k' e h1 h2 h3 h4 (forN_iff.mp q)), fun Y tk => PS.weak (h.ps Y tk) fun E σ H ⟨k, ρ, ι, S, Er, R, D, q⟩ => ⟨k, ρ, ι, S, Er, R, D, forN_iff.mp q⟩⟩
end
end WW


set_option Elab.async false
set_option linter.all false
set_option maxRecDepth 100000
set_option maxHeartbeats 4000000
set_option autoImplicit false
namespace WW
open PySem PySem.Spec PyProof.Rows L2

/-! ### str, sum, max, min, sorted; pop(i), insert, index -/
def strC : CalD
  | [.int i], S, Q => i.natAbs.log2 < 1920 ∧ Q (.str (toString i)) S
  | [.str z], S, Q => Q (.str z) S
  | _, _, _ => False
/-- a list of ints -/
def intsOf : D → Sto → (List Int → Prop) → Prop
  | .fro ds, _, Q => ∃ ns : List Int, ds = ns.map .int ∧ Q ns
  | .ref n, S, Q => ∃ ns : List Int, S[n]? = some (.lst (ns.map .int)) ∧ Q ns
  | _, _, _ => False
def sumC : CalD
  | [d], S, Q => intsOf d S fun ns => Q (.int ns.sum) S
  | _, _, _ => False
def maxC : CalD
  | [.int i, .int j], S, Q => Q (.int (if j > i then j else i)) S
  | [d], S, Q => intsOf d S fun ns => 0 < ns.length ∧ ∀ m, m ∈ ns → (∀ y, y ∈ ns → y ≤ m) → Q (.int m) S
  | _, _, _ => False
def minC : CalD
  | [.int i, .int j], S, Q => Q (.int (if j < i then j else i)) S
  | [d], S, Q => intsOf d S fun ns => 0 < ns.length ∧ ∀ m, m ∈ ns → (∀ y, y ∈ ns → m ≤ y) → Q (.int m) S
  | _, _, _ => False
/-- sorted of a list of ints, of a dict by ints -/
def sortC : CalD
  | [.ref n], S, Q => (∃ ns : List Int, S[n]? = some (.lst (ns.map .int)) ∧ ∀ ms : List Int, ms.Perm ns → ms.Pairwise (· ≤ ·) → Q (.ref S.length) (S ++ [.lst (ms.map .int)])) ∨
      ∃ (kvs : List (Key × D)) (ks : List Int), S[n]? = some (.dK false kvs) ∧ kvs.map (·.1) = ks.map Sum.inl ∧ ks.length < 64 ∧ ∀ ms : List Int, ms.Perm ks → ms.Pairwise (· ≤ ·) → Q (.ref S.length) (S ++ [.lst (ms.map .int)])
  | [.fro ds], S, Q => ∃ ns : List Int, ds = ns.map .int ∧ ∀ ms : List Int, ms.Perm ns → ms.Pairwise (· ≤ ·) → Q (.ref S.length) (S ++ [.lst (ms.map .int)])
  | _, _, _ => False
def popAtM : MetD
  | .ref n, [.int i], S, Q => ∃ ds k, S[n]? = some (.lst ds) ∧ -(2 ^ 63) ≤ i ∧ i < 2 ^ 63 ∧ seqIndex? i ds.length = some k ∧ gv (ds[k]?) fun d => Q d (S.set n (.lst (ds.eraseIdx k)))
  | _, _, _, _ => False
def insM : MetD
  | .ref n, [.int i, d], S, Q => ∃ ds, S[n]? = some (.lst ds) ∧ ds.length < sizeLine ∧ 0 ≤ i ∧ i < 2 ^ 63 ∧ Q .non (S.set n (.lst (ds.take i.toNat ++ [d] ++ ds.drop i.toNat)))
  | _, _, _, _ => False
def idxAt (x : D) (ds : List D) (j : Nat) : Prop := flatD x = true ∧ ds.all flatD = true ∧ (∃ z, ds[j]? = some z ∧ eqF z x = true) ∧ ∀ m z, m < j → ds[m]? = some z → eqF z x = false
def idxM : MetD
  | .ref n, [x], S, Q => ∃ ds j, S[n]? = some (.lst ds) ∧ idxAt x ds j ∧ Q (.int (j : Nat)) S
  | .fro ds, [x], S, Q => ∃ j, idxAt x ds j ∧ Q (.int (j : Nat)) S
  | _, _, _, _ => False
def seqTy : D → Sto → Prop
  | .ref n, S => ∃ ds, S[n]? = some (.lst ds)
  | .fro _, _ => True
  | _, _ => False
theorem intsOf_mono {d : D} {S : Sto} {Q Q' : List Int → Prop} (h : ∀ ns, Q ns → Q' ns) (q : intsOf d S Q) : intsOf d S Q' := by
  cases d <;> first | exact q.elim | exact let ⟨ns, a, b⟩ := q; ⟨ns, a, h _ b⟩
theorem intsOf_V {K : KF} {H : Hp} {ι : List Addr} {S : Sto} {d : D} {v : V} {Q : List Int → Prop} (R : RepS K H ι S) (r : RepV K H ι d v) (q : intsOf d S Q) : ∃ a ns, v = .ref a ∧ SqL K.K H a (ns.map V.int) ∧ Q ns := by
  cases d <;> try exact q.elim
  · obtain ⟨ns, rfl, q⟩ := q
    obtain ⟨a, xs, rfl, hx, rr⟩ := r
    rw [RepVs.ints rr] at hx
    exact ⟨a, ns, rfl, hx.sq, q⟩
  · obtain ⟨ns, e, q⟩ := q
    obtain ⟨a, xs, rfl, _, hx, rr⟩ := R.list r e
    rw [RepVs.ints rr] at hx
    exact ⟨a, ns, rfl, .inl (.inl hx), q⟩
section
variable {X : Cx}
theorem strC_S : CalS X (.type "str") strC where
  mono := fun ds S Q Q' h q => by
    unfold strC at q ⊢
    split at q
    · exact ⟨q.1, h _ _ q.2⟩
    · exact h _ _ q
    · exact q.elim
  rd := ⟨_, CallR.or call_str_int SkE.call_str_str, fun ds S Q vs H ι QV R rs q k => by
    unfold strC at q
    split at q
    · obtain ⟨v, r, rfl, rv, rr⟩ := rs
      cases rr
      cases rv
      exact .inl ⟨_, rfl, q.1, k.here R (d := .str _) rfl q.2⟩
    · obtain ⟨v, r, rfl, rv, rr⟩ := rs
      cases rr
      cases rv
      exact .inr ⟨_, rfl, k.here R (d := .str _) rfl q⟩
    · exact q.elim⟩
theorem sumC_S (hc : X.calm = true) : CalS X (.builtin "sum") sumC where
  mono := fun ds S Q Q' h q => by
    unfold sumC at q ⊢
    split at q
    · exact intsOf_mono (fun ns z => h _ _ z) q
    · exact q.elim
  rd := ⟨_, cr_sum hc, fun ds S Q vs H ι QV R rs q k => by
    unfold sumC at q
    split at q
    · obtain ⟨v, r, rfl, rv, rr⟩ := rs
      cases rr
      obtain ⟨a, ns, rfl, hx, q⟩ := intsOf_V R rv q
      exact ⟨a, ns, rfl, hx, k.here R (d := .int _) rfl q⟩
    · exact q.elim⟩
theorem maxC_S (hc : X.calm = true) : CalS X (.builtin "max") maxC where
  mono := fun ds S Q Q' h q => by
    unfold maxC at q ⊢
    split at q
    · exact h _ _ q
    · exact intsOf_mono (fun ns z => ⟨z.1, fun m a b => h _ _ (z.2 m a b)⟩) q
    · exact q.elim
  rd := ⟨_, CallR.or (call_max2 hc) (cr_max hc), fun ds S Q vs H ι QV R rs q k => by
    unfold maxC at q
    split at q
    · obtain ⟨v, r, rfl, rv, v2, r2, rfl, rv2, rr⟩ := rs
      cases rr
      cases rv
      cases rv2
      exact .inl ⟨_, _, rfl, k.here R (d := .int _) rfl q⟩
    · obtain ⟨v, r, rfl, rv, rr⟩ := rs
      cases rr
      obtain ⟨a, ns, rfl, hx, q⟩ := intsOf_V R rv q
      exact .inr ⟨a, ns, rfl, hx, q.1, fun m h1 h2 => k.here R (d := .int _) rfl (q.2 m h1 h2)⟩
    · exact q.elim⟩
theorem minC_S (hc : X.calm = true) : CalS X (.builtin "min") minC where
  mono := fun ds S Q Q' h q => by
    unfold minC at q ⊢
    split at q
    · exact h _ _ q
    · exact intsOf_mono (fun ns z => ⟨z.1, fun m a b => h _ _ (z.2 m a b)⟩) q
    · exact q.elim
  rd := ⟨_, CallR.or (call_min2 hc) (cr_min hc), fun ds S Q vs H ι QV R rs q k => by
    unfold minC at q
    split at q
    · obtain ⟨v, r, rfl, rv, v2, r2, rfl, rv2, rr⟩ := rs
      cases rr
      cases rv
      cases rv2
      exact .inl ⟨_, _, rfl, k.here R (d := .int _) rfl q⟩
    · obtain ⟨v, r, rfl, rv, rr⟩ := rs
      cases rr
      obtain ⟨a, ns, rfl, hx, q⟩ := intsOf_V R rv q
      exact .inr ⟨a, ns, rfl, hx, q.1, fun m h1 h2 => k.here R (d := .int _) rfl (q.2 m h1 h2)⟩
    · exact q.elim⟩
theorem sortC_S (hc : X.calm = true) : CalS X (.builtin "sorted") sortC where
  mono := fun ds S Q Q' h q => by
    unfold sortC at q ⊢
    split at q
    · rcases q with ⟨ns, a, b⟩ | ⟨kvs, ks, a, b, c, e⟩
      · exact .inl ⟨ns, a, fun ms h1 h2 => h _ _ (b ms h1 h2)⟩
      · exact .inr ⟨kvs, ks, a, b, c, fun ms h1 h2 => h _ _ (e ms h1 h2)⟩
    · obtain ⟨ns, a, b⟩ := q
      exact ⟨ns, a, fun ms h1 h2 => h _ _ (b ms h1 h2)⟩
    · exact q.elim
  rd := ⟨_, CallR.or cr_sortedI (call_sortedDI hc), fun ds S Q vs H ι QV R rs q k => by
    unfold sortC at q
    split at q
    · obtain ⟨v, r, rfl, rv, rr⟩ := rs
      cases rr
      rcases q with ⟨ns, e, q⟩ | ⟨kvs, ks, e, hk, h64, q⟩
      · obtain ⟨a, xs, rfl, _, hx, rr⟩ := R.list rv e
        rw [RepVs.ints rr] at hx
        exact .inl ⟨a, ns, rfl, .inl (.inl hx), fun ms p h1 h2 hp => k.newL R (RepVs.of_ints ms) (q ms h1 h2) p hp⟩
      · obtain ⟨a, o, rfl, _, hx, xs, hz, rk, _⟩ := R.obj rv e
        cases (show o = .dK xs from hz)
        exact .inr ⟨a, xs, ks, rfl, .inl hx, by rw [← rk]; exact hk, h64, fun ms p h1 h2 hp => k.newL R (RepVs.of_ints ms) (q ms h1 h2) p hp⟩
    · obtain ⟨v, r, rfl, rv, rr⟩ := rs
      cases rr
      obtain ⟨ns, rfl, q⟩ := q
      obtain ⟨a, xs, rfl, hx, rr⟩ := rv
      rw [RepVs.ints rr] at hx
      exact .inl ⟨a, ns, rfl, hx.sq, fun ms p h1 h2 hp => k.newL R (RepVs.of_ints ms) (q ms h1 h2) p hp⟩
    · exact q.elim⟩
end
theorem RepVs.eraseIdx {K : KF} {H : Hp} {ι : List Addr} : ∀ {ds : List D} {xs : List V} (i : Nat), RepVs K H ι ds xs → RepVs K H ι (ds.eraseIdx i) (xs.eraseIdx i)
  | [], xs, i, h => by
    cases (show xs = [] from h)
    rfl
  | d :: ds, xs, 0, h => by
    obtain ⟨x, r, rfl, h1, h2⟩ := h
    exact h2
  | d :: ds, xs, i + 1, h => by
    obtain ⟨x, r, rfl, h1, h2⟩ := h
    exact ⟨x, _, rfl, h1, RepVs.eraseIdx i h2⟩
theorem RepVs.takeV {K : KF} {H : Hp} {ι : List Addr} : ∀ {ds : List D} {xs : List V} (i : Nat), RepVs K H ι ds xs → RepVs K H ι (ds.take i) (xs.take i)
  | [], xs, i, h => by
    cases (show xs = [] from h)
    simp
    rfl
  | d :: ds, xs, 0, h => by simp; rfl
  | d :: ds, xs, i + 1, h => by
    obtain ⟨x, r, rfl, h1, h2⟩ := h
    exact ⟨x, _, rfl, h1, RepVs.takeV i h2⟩
theorem RepVs.dropV {K : KF} {H : Hp} {ι : List Addr} : ∀ {ds : List D} {xs : List V} (i : Nat), RepVs K H ι ds xs → RepVs K H ι (ds.drop i) (xs.drop i)
  | [], xs, i, h => by
    cases (show xs = [] from h)
    simp
    rfl
  | d :: ds, xs, 0, h => by simp; exact h
  | d :: ds, xs, i + 1, h => by
    obtain ⟨x, r, rfl, h1, h2⟩ := h
    exact RepVs.dropV i h2
section
variable {X : Cx}
theorem popAtM_S : MetS X "list" "list.pop" lstTy popAtM where
  mono := fun x ds S Q Q' h q => by
    unfold popAtM at q ⊢
    split at q
    · obtain ⟨ds, k, a, b1, b2, b3, b⟩ := q
      obtain ⟨d, e, c⟩ := gv_iff.mp b
      exact ⟨ds, k, a, b1, b2, b3, gv_iff.mpr ⟨d, e, h _ _ c⟩⟩
    · exact q.elim
  ty_ := lstTy_V
  rd := ⟨_, mt_popAt, fun x ds S Q v vs H ι QV R rx rs q k => by
    unfold popAtM at q
    split at q
    · obtain ⟨es, j, e, b1, b2, b3, q⟩ := q
      obtain ⟨d, e2, q⟩ := gv_iff.mp q
      obtain ⟨a, xs, rfl, hi, hx, r2⟩ := R.list rx e
      obtain ⟨w, r, rfl, rv, rr⟩ := rs
      cases rr
      cases rv
      obtain ⟨y, hy, ry⟩ := r2.get e2
      exact ⟨a, xs, _, j, y, rfl, rfl, hx, b1, b2, by rw [← r2.length]; exact b3, hy, k _ _ q y _ ι (Tr.write R hi (nfz hx)) (RepS.write R hi (RepVs.eraseIdx j r2)) (RepV.tr R (Tr.write R hi (nfz hx)) _ _ ry)⟩
    · exact q.elim⟩
theorem insM_S : MetS X "list" "list.insert" lstTy insM where
  mono := fun x ds S Q Q' h q => by
    unfold insM at q ⊢
    split at q
    · obtain ⟨ds, a, b1, b2, b3, b⟩ := q
      exact ⟨ds, a, b1, b2, b3, h _ _ b⟩
    · exact q.elim
  ty_ := lstTy_V
  rd := ⟨_, mt_insert, fun x ds S Q v vs H ι QV R rx rs q k => by
    unfold insM at q
    split at q
    · obtain ⟨es, e, b1, b2, b3, q⟩ := q
      obtain ⟨a, xs, rfl, hi, hx, r2⟩ := R.list rx e
      obtain ⟨w, r, rfl, rv, w2, r3, rfl, rv2, rr⟩ := rs
      cases rr
      cases rv
      exact ⟨a, xs, _, w2, rfl, rfl, hx, by rw [← r2.length]; exact b1, b2, b3, k _ _ q .non _ ι (Tr.write R hi (nfz hx)) (RepS.write R hi (RepVs.app (RepVs.app (RepVs.takeV _ r2) (RepVs.one rv2)) (RepVs.dropV _ r2))) rfl⟩
    · exact q.elim⟩
theorem idxAt_V {K : KF} {H : Hp} {ι : List Addr} {x : D} {v : V} {ds : List D} {xs : List V} {j : Nat} (rv : RepV K H ι x v) (r : RepVs K H ι ds xs) (h : idxAt x ds j) :
    ∃ z, flatV v = true ∧ xs.all flatV = true ∧ xs[j]? = some z ∧ eqV z v = true ∧ ∀ (m : Nat) (z' : V), m < j → xs[m]? = some z' → eqV z' v = false := by
  obtain ⟨f1, f2, ⟨z, hz, ez⟩, hno⟩ := h
  obtain ⟨y, hy, ry⟩ := r.get hz
  have fl : ∀ {i : Nat} {w : D}, ds[i]? = some w → flatD w = true := fun e => List.all_eq_true.mp f2 _ (List.mem_of_getElem? e)
  refine ⟨y, flat_V rv f1, flat_Vs r f2, hy, by rw [eqF_V ry rv (fl hz) f1]; exact ez, fun m z' hm e => ?_⟩
  obtain ⟨w, hw, rw'⟩ := r.getV e
  rw [eqF_V rw' rv (fl hw) f1]
  exact hno m w hm hw
theorem idxM_S : MetS X "list" "list.index" seqTy idxM where
  mono := fun x ds S Q Q' h q => by
    unfold idxM at q ⊢
    split at q
    · obtain ⟨ds, j, a, b, c⟩ := q; exact ⟨ds, j, a, b, h _ _ c⟩
    · obtain ⟨j, b, c⟩ := q; exact ⟨j, b, h _ _ c⟩
    · exact q.elim
  ty_ := fun x S v H ι R r h => by
    cases x <;> try exact h.elim
    · obtain ⟨a, xs, rfl, hx, _⟩ := r
      exact .inl ⟨rfl, xs, hx.sq⟩
    · exact lstTy_V _ S v H ι R r h
  rd := ⟨_, mt_index, fun x ds S Q v vs H ι QV R rx rs q k => by
    unfold idxM at q
    split at q
    · obtain ⟨es, j, e, h, q⟩ := q
      obtain ⟨a, xs, rfl, hi, hx, r2⟩ := R.list rx e
      obtain ⟨w, r, rfl, rv, rr⟩ := rs
      cases rr
      obtain ⟨z, h1, h2, h3, h4, h5⟩ := idxAt_V rv r2 h
      exact ⟨a, xs, w, j, z, rfl, rfl, .inl (.inl hx), h1, h2, h3, h4, h5, k.here R (d := .int _) rfl q⟩
    · obtain ⟨j, h, q⟩ := q
      obtain ⟨a, xs, rfl, hx, r2⟩ := rx
      obtain ⟨w, r, rfl, rv, rr⟩ := rs
      cases rr
      obtain ⟨z, h1, h2, h3, h4, h5⟩ := idxAt_V rv r2 h
      exact ⟨a, xs, w, j, z, rfl, rfl, hx.sq, h1, h2, h3, h4, h5, k.here R (d := .int _) rfl q⟩
    · exact q.elim⟩
end
end WW


set_option Elab.async false
set_option linter.all false
set_option maxRecDepth 100000
set_option maxHeartbeats 4000000
set_option autoImplicit false
namespace WW
open PySem PySem.Spec PyProof.Rows L2

/-! ### sorted(xs, key=f), f a def that keeps the heap -/
/-- a def of one int that answers an int and keeps every object -/
def KeyFn (P : Program) (w : World) (K : PySem.W.Frag) (k : Nat) (f : Addr) (dom : Int → Prop) (key : Int → Int) : Prop :=
  ∀ (A : Around) (s : Shared) (n : Int) (t : Tok), Room k A → K.In s.heap → s.heap.NoLimit → dom n → wpAny (model P w) A (call (.ref f) [.int n t]) (PySem.W.KeyPure (.int (key n)) s) (fun _ _ => False) s
theorem least_pure {P : Program} {w : World} {K : PySem.W.Frag} {x qual : Str} {st : Stmt} {f : Addr} {fd : FuncData} (F : Fun K x qual st f fd) (S : FnScope ["lot"] ["lot"] (defScope st)) (hb : Binds K fd ["lot"] [])
    (hl : (defScope st).names.lookup ("lot" : Str) = some .local)
    {q1 q2 q3 q4 r1 r2 r3 r4 r5 r6 r7 apos cpos : Pos} {j1 j2 : Nat} {ret : List Stmt}
    (eb : defBody st = [.If (.Compare (.Name "lot" q1) [.Eq] [.Constant (.int 0) j1 q2] q3) ret [] q4,
      .Return (some (.BinOp (.Call (.Attribute (.BinOp (.Name "lot" r1) .BitAnd (.UnaryOp .USub (.Name "lot" r2) r3) r4) "bit_length" apos) [] [] cpos) .Sub (.Constant (.int 1) j2 r5) r6)) r7])
    (hline : (apos.endLine == cpos.line) = true) : KeyFn P w K 1 f (fun n => n ≠ 0) (fun n => (Builtin.Int.intBits (Builtin.bitAnd n (-n)) : Nat) - 1) := by
  intro A s n t hr hK lim hn
  obtain ⟨oc, od, kV, doc, pm, an, cdv, ct, osl, rfl, lk, hcd⟩ := F.ex
  have hkind : ∀ y ∈ (["lot"] : List Str).zip [Value.int n t], (defScope st).names.lookup y.1 = some .local ∨ ((defScope st).names.lookup y.1 = some .cell ∧ ((cellsFrom (s.heap.objs.size + 1) (defScope st).names []).lookup y.1).isSome = true) := fun y hy => by
    simp at hy
    subst hy
    exact .inl hl
  refine wpAny_call (codeAny_call_function hr.depth (hK _ _ lk) rfl S.co S.gen rfl (PySem.W.codeRec_of hK hcd) (hb s [.int n t] hK rfl _ _ _ _ ?_))
  refine wpAny_newFunctionEnv_cells S.kind hkind fun env he s1 x => ?_
  subst he
  refine ⟨lim.keeps x.toInCall.keep, codeAny_func ?_⟩
  rw [eb]
  have hm : PySem.bindL (newEnv (defScope st) s.heap.objs.size mainGlobals (cellsFrom (s.heap.objs.size + 1) (defScope st).names []) qual (some f) cdv none builtinsNs).kindOf ((["lot"] : List Str).zip [Value.int n t]) (fun _ => none) ("lot" : Str) = some (Value.int n t) :=
    bindL_get (by simp) (i := 0) rfl rfl hl
  have nm : ∀ {pos : Pos} {Q : Value → Shared → Prop} {E : Value → Shared → Prop} {A2 : Around} (tk : Nat), Q (.int n t) { s1 with toks := tk } →
      wpAny (model P w) A2 (eval (.Name "lot" pos) (newEnv (defScope st) s.heap.objs.size mainGlobals (cellsFrom (s.heap.objs.size + 1) (defScope st).names []) qual (some f) cdv none builtinsNs)) Q E { s1 with toks := tk } := fun tk q =>
    NameLC (x.tok tk) S.kind hl hm q (by decide)
  have fin : ∀ (u : Tok) (tk : Nat), PySem.W.KeyPure (.int ((Builtin.Int.intBits (Builtin.bitAnd n (-n)) : Nat) - 1)) s (.int ((Builtin.Int.intBits (Builtin.bitAnd n (-n)) : Nat) - 1) u) { s1 with toks := tk } := fun u tk => by
    obtain ⟨h', tk', e, kp⟩ := (x.tok tk).done
    exact ⟨h', tk', e, kp, .int _ _⟩
  refine wpAny_execs_cons (wpAny_If (wpAny_isTrue_Compare1 (nm s1.toks (wpAny_Constant_int (eq_int (wpAny_truthy_bool ?_)))) rfl))
  rw [show ((n == 0) : Bool) = false from by simpa using hn]
  refine wpAny_execs_nil ?_
  refine wpAny_execs_cons (wpAny_Return_some (wpAny_BinOp ?_))
  refine Call_method0 rfl hline (wpAny_BinOp (nm _ (UnaryOp_ (nm _ (neg_int (and_int ?_))))))
  exact ⟨"int", _, PySem.F.plainAttrs_int, PyProof.Rows.slot_int_bit_length, PyProof.Rows.type_int_bit_length, typeIs_int _ _ _, (fun _ e => nomatch e), Calls.callWith_builtin rfl (PySem.evalArgs_none (call_int_bit_length (wpAny_Constant_int (sub_int (fin _ _)))))⟩
/-- the text of least_header -/
def leastB : List Stmt → Bool
  | [.If (.Compare (.Name a _) [.Eq] [.Constant (.int 0) _ _] _) _ [] _, .Return (some (.BinOp (.Call (.Attribute (.BinOp (.Name b _) .BitAnd (.UnaryOp .USub (.Name c _) _) _) m apos) [] [] cpos) .Sub (.Constant (.int 1) _ _) _)) _] =>
    decide (a = "lot") && decide (b = "lot") && decide (c = "lot") && decide (m = "bit_length") && (apos.endLine == cpos.line)
  | _ => false
def dom_least (n : Int) : Prop := n ≠ 0
def key_least (n : Int) : Int := (Builtin.Int.intBits (Builtin.bitAnd n (-n)) : Nat) - 1
theorem least_pureB {P : Program} {w : World} {K : PySem.W.Frag} {x qual : Str} {st : Stmt} {f : Addr} {fd : FuncData} (F : Fun K x qual st f fd) (S : FnScope ["lot"] ["lot"] (defScope st)) (hb : Binds K fd ["lot"] [])
    (hl : (defScope st).names.lookup ("lot" : Str) = some .local) (h : leastB (defBody st) = true) : KeyFn P w K 1 f dom_least key_least := by
  have go : ∀ body, leastB body = true → defBody st = body → KeyFn P w K 1 f dom_least key_least := fun body h e => by
    unfold leastB at h
    split at h
    · rw [Bool.and_eq_true_iff, Bool.and_eq_true_iff, Bool.and_eq_true_iff, Bool.and_eq_true_iff] at h
      obtain ⟨⟨⟨⟨h1, h2⟩, h3⟩, h4⟩, h5⟩ := h
      have e1 := of_decide_eq_true h1
      have e2 := of_decide_eq_true h2
      have e3 := of_decide_eq_true h3
      have e4 := of_decide_eq_true h4
      subst e1 e2 e3 e4
      exact least_pure F S hb hl e h5
    · cases h
  exact go _ h rfl
theorem each_ints : ∀ {us : List Value} {ns : List Int}, IntsAre us ns → PySem.W.EachIs (fun v n => ∃ t, v = Value.int n t) us ns
  | _, _, .nil => .nil
  | _, _, .cons n t r => .cons ⟨t, rfl⟩ (each_ints r)
theorem ints_eachI : ∀ {us : List Value} {ns : List Int}, PySem.W.EachIs (fun v n => ∃ t, v = Value.int n t) us ns → IntsAre us ns
  | _, _, .nil => .nil
  | _, _, .cons ⟨t, e⟩ r => by
    subst e
    exact .cons _ _ (ints_eachI r)
def rSrtK (K : PySem.W.Frag) (f : Addr) (dom : Int → Prop) (key : Int → Int) : List V → List V → Hp → VK → Prop := fun vs zs H Q => ∃ (a : Addr) (ns : List Int), vs = [V.ref a] ∧ zs = [V.ref f] ∧ SqL K H a (ns.map V.int) ∧ (∀ n ∈ ns, dom n) ∧
  ∀ p, H p = none → Q (.ref p) (upd H p (.lst ((ns.mergeSort fun x y => decide (key x ≤ key y)).map V.int)))
theorem cr_sortKey {X : Cx} {k : Nat} {f : Addr} {dom : Int → Prop} {key : Int → Int} (KF : KeyFn X.prog X.w X.K k f dom key) (hr : Room (k + 2) X.A) : CallRK X (.builtin "sorted") [Str.ofString "key"] (rSrtK X.K f dom key) := by
  intro pins s σ H vs zs us ws Q I r rz h
  obtain ⟨a, ns, rfl, rfl, hs, hd, q⟩ := h
  obtain rfl := Vals.ref1 r
  obtain ⟨w1, rfl, e1⟩ := vals1 rz
  obtain rfl : w1 = Value.ref f := e1
  obtain ⟨its, rv, hl, hz⟩ := I.list hs
  have hi := rv.ints
  have hz' : ns.length ≤ sizeLine := by rw [List.length_map] at hz; exact hz
  refine PySem.W.sorted_key_data (b := false) (fun n : Int => .int (key n)) hl.isList (each_ints hi) (.of fun _ _ => by simp [PySem.W.alike]) (.others fun _ => ⟨(by simp), (by simp)⟩) hz' (fun n _ => ?_) (PyProof.Rows.ksk_s1 _ _) (fun _ => PyProof.Rows.ksk_l1 _ _) (fun _ => PyProof.Rows.ksk_t1 _ _)
    (fun v n ⟨t, e⟩ hn h tk kp => ?_) fun out c h' tk kp fr at_ hlen eo => ?_
  · have := hr.un
    show X.A.units + 2 + (PyData.int (key n)).depth < cLine
    rw [show (PyData.int (key n)).depth = 0 from by simp [PyData.depth]]
    omega
  · subst e
    exact KF _ _ n t hr.in1.in1 (I.kIn.keeps kp) (I.nolimit.keeps kp) (hd n hn)
  · rw [PySem.W.dataLe_int (β := Int) key] at eo
    have io := ints_eachI eo
    refine ⟨.ref _, upd H (s.heap.objs.size + 1) (.lst ((ns.mergeSort fun x y => decide (key x ≤ key y)).map V.int)), I.laid (t' := tk) (fun b o e => kp b o e) (Nat.le_succ _) ⟨?_, out, c, vals_of_ints io, at_⟩, rfl, q _ (I.hok.fresh (Nat.le_succ _))⟩
    rw [List.length_map, List.length_mergeSort]
    exact hz'
/-- a key function that is known: sorted(.., key=x) -/
def SrtOk (X : Cx) (x : Str) (dom : Int → Prop) (key : Int → Int) : Prop := ∃ (k : Nat) (f : Addr), Room (k + 2) X.A ∧ X.mg x = some (.ref f) ∧ KeyFn X.prog X.w X.K k f dom key
def srtKD (dom : Int → Prop) (key : Int → Int) : D → Sto → Q1 → Prop
  | .ref n, S, Q => ∃ ns : List Int, S[n]? = some (.lst (ns.map .int)) ∧ (∀ n ∈ ns, dom n) ∧ Q (.ref S.length) (S ++ [.lst ((ns.mergeSort fun x y => decide (key x ≤ key y)).map .int)])
  | _, _, _ => False
def wSrtK (dom : Int → Prop) (key : Int → Int) (a : W) : W := fun ρ S Q => a ρ S fun d S1 => srtKD dom key d S1 Q
theorem srtKD_mono {dom : Int → Prop} {key : Int → Int} {d : D} {S : Sto} {Q Q' : Q1} (h : ∀ d S, Q d S → Q' d S) (q : srtKD dom key d S Q) : srtKD dom key d S Q' := by
  cases d <;> first | exact q.elim | exact let ⟨ns, a, b, c⟩ := q; ⟨ns, a, b, h _ _ c⟩
theorem pe_glb {X : Cx} {x : Str} {f : Addr} {pos : Pos} (hg : Gl X x) (hm : X.mg x = some (.ref f)) (hdb : (x == ("__debug__" : Str)) = false) : PE X (.Name x pos) (tC (.ref f)) :=
  ⟨fun pins s σ H Q I h => ld_glob I hg hm ⟨.ref f, H, I, rfl, h⟩ hdb⟩
theorem pw_srtK {X : Cx} {a : Expr} {w : W} {x : Str} {dom : Int → Prop} {key : Int → Int} {p p2 q pos : Pos} (hg : Gl X "sorted") (hm : X.mg "sorted" = none) (ok : SrtOk X x dom key) (hg2 : Gl X x) (hdb : (x == ("__debug__" : Str)) = false) (ha : PEw X a w)
    (na : starEach [a] X.env = (false, eval a X.env) :: starEach [] X.env) : PEw X (.Call (.Name "sorted" p) [a] [⟨some "key", .Name x p2, q⟩] pos) (wSrtK dom key w) where
  mono := fun ρ S Q Q' h q => ha.mono _ _ _ _ (fun d S1 q1 => srtKD_mono h q1) q
  pe := fun Y tk => by
    obtain ⟨k, f, hr, hf, KF⟩ := ok
    refine PE.weak (pe_callBK (cr_sortKey KF hr) hg hm (by decide +kernel) (pa_cons (ha.pe Y tk) pa_nil na) (pk_cons (pe_glb hg2 hf hdb) pk_nil) (by decide) (by decide) (by rw [na]; rfl) (by rw [na]; rfl)) ?_
    intro σ H Q ⟨ρ, ι, S, E, R, q⟩
    refine tE_k ha.mono E R q fun d S1 v H1 ι1 T1 R1 r E1 q1 => ?_
    cases d <;> try exact q1.elim
    obtain ⟨ns, e, hd, q1⟩ := q1
    obtain ⟨a, xs, rfl, _, hx, rr⟩ := R1.list r e
    rw [RepVs.ints rr] at hx
    exact ⟨a, ns, rfl, rfl, .inl (.inl hx), hd, fun pp hp => q1 _ _ _ (T1.trans (Tr.alloc R1 hp)) (RepS.alloc R1 hp (RepVs.of_ints _)) (RepV.new R1)⟩
end WW


set_option Elab.async false
set_option linter.all false
set_option maxRecDepth 100000
set_option maxHeartbeats 4000000
set_option autoImplicit false
namespace WW
open PySem PySem.Spec PyProof.Rows L2

/-! ### from the program's syntax to clean readings -/
/-- own classes and defs that may raise: field ↦ classes; method ↦ (class, arguments beside self, promise); class ↦ (arguments, __init__'s promise); def ↦ promise; S: defs that sort (int to int, the heap kept) -/
structure Kl where
  F : List (Str × List Str)
  M : List (Str × List (Str × Nat × Spec))
  C : List (Str × Nat × Spec)
  X : List (Str × Nat × SpecX)
  S : List (Str × (Int → Prop) × (Int → Int))
def kl0 : Kl := ⟨[], [], [], [], []⟩
structure Ct where
  N : List Str
  sc : Scope
  st : Str → Bool
  G : List (Str × Nat × Spec)
  B : List Str
  L : Kl
def idxS : List Str → Str → Option Nat
  | [], _ => none
  | y :: r, x => if y = x then some 0 else (idxS r x).map (· + 1)
theorem idxS_get : ∀ {N : List Str} {x : Str} {i : Nat}, idxS N x = some i → N[i]? = some x
  | [], _, _, h => nomatch h
  | y :: r, x, i, h => by
    unfold idxS at h
    split at h
    · rename_i e
      cases h
      subst e
      rfl
    · cases q : idxS r x with
      | none => rw [q] at h; cases h
      | some j =>
        rw [q] at h
        cases h
        have := idxS_get q
        simpa using this
theorem idxS_none : ∀ {N : List Str} {x : Str}, idxS N x = none → x ∉ N
  | [], _, _ => by simp
  | y :: r, x, h => by
    unfold idxS at h
    split at h
    · cases h
    · rename_i e
      cases q : idxS r x with
      | some j => rw [q] at h; cases h
      | none =>
        intro hm
        rcases List.mem_cons.mp hm with z | z
        · exact e z.symm
        · exact idxS_none q z
def isVis : Option NameKind → Bool
  | some .local => true
  | some .cell => true
  | some .free => true
  | _ => false
def isLoc : Option NameKind → Bool
  | some .local => true
  | some .cell => true
  | _ => false
def isGl : Option NameKind → Bool
  | some .globalImplicit => true
  | _ => false
def okName (x : Str) : Bool := !(x == ("__debug__" : Str)) && !(x == ("__classdict__" : Str))
def slot (c : Ct) (x : Str) : Option Nat := if (isVis (c.sc.names.lookup x) && okName x) = true then idxS c.N x else none
def slotS (c : Ct) (x : Str) : Option Nat := if (c.st x && okName x) = true then idxS c.N x else none
def plainX : Expr → Bool
  | .BoolOp .. => true
  | .BinOp .. => true
  | .UnaryOp .. => true
  | .IfExp .. => true
  | .ListComp .. => true
  | .Compare .. => true
  | .Call .. => true
  | .Constant .. => true
  | .Attribute .. => true
  | .Subscript .. => true
  | .Name .. => true
  | .List .. => true
  | .Tuple .. => true
  | _ => false
def isComp : Expr → Bool
  | .ListComp .. => true
  | .SetComp .. => true
  | .DictComp .. => true
  | _ => false
def isTup : Expr → Bool
  | .Tuple .. => true
  | _ => false
/-- a receiver of a method: no super() -/
def attrX : Expr → Bool
  | .Call (.Name _ _) [] [] _ => false
  | e => plainX e
/-- what a test reads by truth alone -/
def truX : Expr → Bool
  | .BinOp .. => true
  | .Call .. => true
  | .Constant .. => true
  | .Attribute .. => true
  | .Subscript .. => true
  | .Name .. => true
  | .ListComp .. => true
  | _ => false
section
variable {env : PySem.Env} {e : Expr}
theorem ns_of (es : List Expr) (h : plainX e = true) : starEach (e :: es) env = (false, eval e env) :: starEach es env := by
  cases e <;> first | rfl | exact absurd h Bool.false_ne_true
theorem ix_of (h : plainX e = true) : PlainIx e := by
  cases e <;> first | exact fun _ _ => rfl | exact absurd h Bool.false_ne_true
theorem fs_of (h : plainX e = true) : ∀ x, foldedSetIterable e env x = pure x := by
  cases e <;> first | exact fun _ => rfl | exact absurd h Bool.false_ne_true
theorem bm_of {op : CmpOp} (h : plainX e = true) : behindInMarks op e = false := by
  cases e <;> first | rfl | exact absurd h Bool.false_ne_true
theorem sw_of {t : Option Expr} {l : Nat} (h : isComp e = false) : swapsWith e t l env = pure false := by
  cases e <;> first | rfl | exact absurd h.symm Bool.false_ne_true
theorem ss_of {ts : List Expr} (h : isTup e = false) : swappedStores ts e env = pure none := by
  cases e <;> first
    | exact absurd h.symm Bool.false_ne_true
    | (unfold swappedStores
       cases ts with
       | nil => rfl
       | cons t r => cases r with
         | nil => cases t <;> rfl
         | cons _ _ => cases t <;> rfl)
theorem ab_of {name : Str} {whole : Sem Value} (h : attrX e = true) : attributeBase e name env whole = whole := by
  cases e with
  | Call f as ks p =>
    cases f with
    | Name x q =>
      cases as with
      | nil => cases ks with
        | nil => exact absurd h Bool.false_ne_true
        | cons _ _ => rfl
      | cons _ _ => rfl
    | _ => rfl
  | _ => rfl
theorem tr_of (h : truX e = true) : ∀ whole, isTrue e env whole = (do let v ← whole; standAt e.pos; holding [v] (truthy v)) := by
  cases e <;> first | exact fun _ => rfl | exact absurd h Bool.false_ne_true
end
def plainAll : List Expr → Bool
  | [] => true
  | e :: r => plainX e && plainAll r
theorem back_of {env : PySem.Env} {pos : Pos} : ∀ {es : List Expr}, plainAll es = true → (backTo pos (starEach es env)).any (·.1) = false
  | [], _ => rfl
  | e :: r, h => by
    obtain ⟨h1, h2⟩ := Bool.and_eq_true_iff.mp h
    rw [ns_of r h1]
    show (false || (backTo pos (starEach r env)).any (·.1)) = false
    rw [back_of h2]
    rfl
theorem back_all {env : PySem.Env} {pos : Pos} : ∀ {es : List Expr}, plainAll es = true → (backTo pos (starEach es env)).all (fun x => !x.1) = true
  | [], _ => rfl
  | e :: r, h => by
    obtain ⟨h1, h2⟩ := Bool.and_eq_true_iff.mp h
    rw [ns_of r h1]
    show (true && (backTo pos (starEach r env)).all (fun x => !x.1)) = true
    rw [back_all h2]
    rfl
theorem few_of {env : PySem.Env} {pos : Pos} {es : List Expr} (h : plainAll es = true) (hl : es.length < 30) : ((backTo pos (starEach es env)).all (fun x => !x.1) && (backToKw pos (keywordEach [] env)).all (fun x => x.1.isSome)
      && decide (es.length + ([] : List Keyword).length + (if ([] : List Keyword).isEmpty then 0 else 1) < 30)) = true := by
  rw [back_all h]
  show (true && true && decide (es.length + 0 + 0 < 30)) = true
  simp
  omega
def o2 {α β γ : Type} (f : α → β → γ) : Option α → Option β → Option γ
  | some a, some b => some (f a b)
  | _, _ => none
theorem o2_iff {α β γ : Type} {f : α → β → γ} {a : Option α} {b : Option β} {r : γ} (h : o2 f a b = some r) : ∃ x y, a = some x ∧ b = some y ∧ f x y = r := by
  cases a with
  | none => cases h
  | some x => cases b with
    | none => cases h
    | some y => cases h; exact ⟨x, y, rfl, rfl, rfl⟩
theorem map_iff {α β : Type} {f : α → β} {a : Option α} {r : β} (h : a.map f = some r) : ∃ x, a = some x ∧ f x = r := by
  cases a with
  | none => cases h
  | some x => cases h; exact ⟨x, rfl, rfl⟩
def og {α : Type} (b : Bool) (a : Option α) : Option α := match b with
  | true => a
  | false => none
theorem og_iff {α : Type} {b : Bool} {a : Option α} {r : α} (h : og b a = some r) : b = true ∧ a = some r := by
  cases b with
  | true => exact ⟨rfl, h⟩
  | false => cases h
def cstD : Const → Option D
  | .none => some .non
  | .bool b => some (.bl b)
  | .int i => some (.int i)
  | .str s => some (.str s)
  | _ => none
/-- what is built in: a builtin | a type -/
def bltOf (x : Str) : Option ((Bool × String) × CalD) :=
  if x = "len" then some ((false, "len"), lenC)
  else if x = "list" then some ((true, "list"), listC)
  else if x = "tuple" then some ((true, "tuple"), tupleC)
  else if x = "int" then some ((true, "int"), intC)
  else if x = "str" then some ((true, "str"), strC)
  else if x = "sum" then some ((false, "sum"), sumC)
  else if x = "max" then some ((false, "max"), maxC)
  else if x = "min" then some ((false, "min"), minC)
  else if x = "sorted" then some ((false, "sorted"), sortC)
  else none
/-- methods of what is built in, by name and number of arguments -/
structure BM where
  T : String
  id : String
  ty : D → Sto → Prop
  o : MetD
def bltM (m : Str) (k : Nat) : List BM :=
  if m = "append" then (if k = 1 then [⟨"list", "list.append", lstTy, appM⟩] else [])
  else if m = "extend" then (if k = 1 then [⟨"list", "list.extend", lstTy, extM⟩] else [])
  else if m = "pop" then (if k = 0 then [⟨"list", "list.pop", lstTy, popM⟩] else if k = 1 then [⟨"list", "list.pop", lstTy, popAtM⟩] else [])
  else if m = "insert" then (if k = 2 then [⟨"list", "list.insert", lstTy, insM⟩] else [])
  else if m = "index" then (if k = 1 then [⟨"list", "list.index", seqTy, idxM⟩] else [])
  else if m = "get" then (if k = 1 ∨ k = 2 then [⟨"dict", "dict.get", dctTy, getM⟩] else [])
  else if m = "join" then (if k = 1 then [⟨"str", "str.join", strTy, joinM⟩] else [])
  else []
def orAll : List W → Option W
  | [] => none
  | [w] => some w
  | w :: v :: r => (orAll (v :: r)).map (wOr w)
def clsM (c : Ct) (m : Str) (k : Nat) : List (Str × Nat × Spec) := match c.L.M.lookup m with
  | some ms => ms.filter fun t => decide (t.2.1 = k)
  | none => []
def metsW (c : Ct) (m : Str) (k : Nat) (wo : W) (wa : WA) : Option W :=
  orAll ((bltM m k).map (fun b => wMet b.ty b.o wo wa) ++ (clsM c m k).map fun t => wMth t.1 m t.2.1 t.2.2 wo wa)
def ownOf (N : List Str) : List (Str × NameKind) → List (Str × Nat)
  | [] => []
  | y :: r => if isLoc (some y.2) = true then (match idxS N y.1 with | some i => (y.1, i) :: ownOf N r | none => ownOf N r) else ownOf N r
def isFree : NameKind → Bool
  | .free => true
  | _ => false
def isFn : ScopeKind → Bool
  | .function => true
  | _ => false
def blkChk (sc scope : Scope) : Bool := isFn scope.kind && scope.names.all (fun y => decide (scope.names.lookup y.1 = some y.2)) && scope.names.all fun y => !isFree y.2 || decide (sc.names.lookup y.1 = some .cell) || decide (sc.names.lookup y.1 = some .free)
theorem ownOf_ix {N : List Str} : ∀ {ns : List (Str × NameKind)}, ∀ p ∈ ownOf N ns, N[p.2]? = some p.1
  | [], p, h => nomatch h
  | y :: r, p, h => by
    unfold ownOf at h
    split at h
    · split at h
      · rename_i i e
        rcases List.mem_cons.mp h with z | z
        · subst z
          exact idxS_get e
        · exact ownOf_ix p z
      · exact ownOf_ix p h
    · exact ownOf_ix p h
theorem ownOf_mem {N : List Str} : ∀ {ns : List (Str × NameKind)}, ∀ y ∈ ns, y.2 = .local ∨ y.2 = .cell → y.1 ∈ (ownOf N ns).map (·.1) ∨ y.1 ∉ N
  | [], y, h, _ => nomatch h
  | z :: r, y, h, k => by
    unfold ownOf
    rcases List.mem_cons.mp h with e | e
    · subst e
      have hl : isLoc (some y.2) = true := by rcases k with k | k <;> rw [k] <;> rfl
      rw [if_pos hl]
      split
      · left
        exact List.mem_map.mpr ⟨_, List.mem_cons_self, rfl⟩
      · rename_i q
        exact .inr (idxS_none q)
    · rcases ownOf_mem y e k with q | q
      · left
        split
        · split
          · rw [List.map_cons]
            exact List.mem_cons_of_mem _ q
          · exact q
        · exact q
      · exact .inr q
theorem blk_of {N : List Str} {sc scope : Scope} (h : blkChk sc scope = true) : BlkOk N sc scope (ownOf N scope.names) := by
  unfold blkChk at h
  rw [Bool.and_eq_true_iff, Bool.and_eq_true_iff] at h
  obtain ⟨⟨h1, h2⟩, h3⟩ := h
  refine ⟨?_, fun y hy => of_decide_eq_true (List.all_eq_true.mp h2 y hy), ownOf_ix, fun y hy e => ?_, ownOf_mem⟩
  · revert h1
    cases scope.kind <;> simp [isFn]
  · have := List.all_eq_true.mp h3 y hy
    rw [e] at this
    simpa [isFree] using this
def relSt (scope rs : Scope) (x : Str) : Bool := match rs.names.lookup x with
  | some .local => true
  | some .cell => decide (scope.names.lookup x = some .cell)
  | _ => false
def slotsS (c : Ct) : List Expr → Option (List Nat)
  | [] => some []
  | .Name x _ :: r => o2 (fun i is => i :: is) (slotS c x) (slotsS c r)
  | _ :: _ => none
def trP (c : Ct) : Expr → Option Pat
  | .Name x _ => (slotS c x).map .nm
  | .Tuple es _ _ => (slotsS c es).map .tp
  | _ => none
/-- calls that are read as a whole -/
inductive Sx where
  | lstR (b : Expr) | tupR (b : Expr) | tupR2 (b d : Expr) | sset (b : Expr) | isi (t : Ty) (a : Expr)
def bltN (c : Ct) (y : Str) : Bool := decide (y ∈ c.B) && isGl (c.sc.names.lookup y)
def sxOf (c : Ct) (x : Str) (a : Expr) (es : List Expr) : Option Sx :=
  if x = "list" then (match a, es with
    | .Call (.Name y _) [b] [] _, [] => og (decide (x ∈ c.B) && decide (y = "range") && bltN c y && plainX b) (some (.lstR b))
    | _, _ => none)
  else if x = "tuple" then (match a, es with
    | .Call (.Name y _) [b] [] _, [] => og (decide (x ∈ c.B) && decide (y = "range") && bltN c y && plainX b) (some (.tupR b))
    | .Call (.Name y _) [b, d] [] _, [] => og (decide (x ∈ c.B) && decide (y = "range") && bltN c y && plainX b && plainX d) (some (.tupR2 b d))
    | _, _ => none)
  else if x = "sorted" then (match a, es with
    | .Call (.Name y _) [b] [] _, [] => og (decide (x ∈ c.B) && decide (y = "set") && bltN c y && plainX b) (some (.sset b))
    | _, _ => none)
  else if x = "isinstance" then (match es with
    | [.Name y _] => og (decide (x ∈ c.B) && bltN c y) ((tyOfS y).map fun t => .isi t a)
    | _ => none)
  else none
def Ct.blk (c : Ct) (scope : Scope) : Ct := { c with sc := relS scope c.sc, st := relSt scope (relS scope c.sc) }
mutual
def trE (c : Ct) : Nat → Expr → Option W
  | 0, _ => none
  | n + 1, e => match e with
    | .Name x _ => (slot c x).map wVar
    | .Constant k _ _ => (cstD k).map wCst
    | .BinOp a op b _ => o2 (wOp (opD op)) (trE c n a) (trE c n b)
    | .UnaryOp .USub a _ => (trE c n a).map wNeg
    | .UnaryOp .Not a _ => (trE c n a).map wNotV
    | .BoolOp _ [a] _ => trE c n a
    | .BoolOp .And (a :: b :: r) pos => o2 wAndV (trE c n a) (trE c n (.BoolOp .And (b :: r) pos))
    | .BoolOp .Or (a :: b :: r) pos => o2 wOrV (trE c n a) (trE c n (.BoolOp .Or (b :: r) pos))
    | .IfExp t a b _ => o2 (fun t ab => wIf t ab.1 ab.2) (trT c n t) (o2 Prod.mk (trE c n a) (trE c n b))
    | .Compare a [op] [b] _ => og (plainX b) (o2 (wOp (cmpD op)) (trE c n a) (trE c n b))
    | .Compare a [op, op'] [b, d] _ => og (plainX d) (o2 (fun a bd => wChain (cmpD op) (cmpD op') a bd.1 bd.2) (trE c n a) (o2 Prod.mk (trE c n b) (trE c n d)))
    | .Tuple es _ _ => (trA c n es).map wTup
    | .List es _ => (trA c n es).map wLst
    | .Subscript a (.Slice lo hi none _) _ => o2 (fun a lh => wSlc a lh.1 lh.2) (trE c n a) (o2 Prod.mk (trO c n lo) (trO c n hi))
    | .Subscript a b _ => og (plainX b) (o2 (wOp idxD) (trE c n a) (trE c n b))
    | .Attribute o f _ => og (attrX o) (match c.L.F.lookup f with
      | some cs => (trE c n o).map (wFld cs f)
      | none => none)
    | .Dict [] [] _ => some wDct
    | .Call (.Name x _) [] [] _ => og (isGl (c.sc.names.lookup x) && okName x) (match c.L.C.lookup x with
      | some (0, sp) => some (wMak x 0 sp wNil)
      | _ => none)
    | .Call (.Name x _) (a :: es) [] _ => og (isGl (c.sc.names.lookup x) && okName x && plainAll (a :: es)) (match c.G.lookup x with
      | some (m, sp) => (trA c n (a :: es)).map (wCall m sp)
      | none => match c.L.X.lookup x with
        | some (m, sp) => (trA c n (a :: es)).map (wCallX m sp)
        | none => match c.L.C.lookup x with
          | some (m, sp) => (trA c n (a :: es)).map (wMak x m sp)
          | none => match sxOf c x a es with
            | some (.lstR b) => (trE c n b).map fun w => wLstR (wCons w wNil)
            | some (.tupR b) => (trE c n b).map fun w => wTupR (wCons w wNil)
            | some (.tupR2 b d) => o2 (fun v w => wTupR (wCons v (wCons w wNil))) (trE c n b) (trE c n d)
            | some (.sset b) => (trE c n b).map wSSet
            | some (.isi t b) => (trE c n b).map (wIsi t)
            | none => match bltOf x with
              | some (_, o) => og (decide (x ∈ c.B)) ((trA c n (a :: es)).map (wBlt o))
              | none => none)
    | .Call (.Name x _) [a] [⟨some y, .Name z _, _⟩] _ => og (decide (x = "sorted") && decide (y = "key") && bltN c x && isGl (c.sc.names.lookup z) && okName z && plainX a) (match c.L.S.lookup z with
      | some dk => (trE c n a).map (wSrtK dk.1 dk.2)
      | none => none)
    | .Call (.Attribute o m apos) (a :: es) [] pos => og ((apos.endLine == pos.line) && attrX o && plainAll (a :: es) && decide ((a :: es).length < 30)) (match trE c n o, trA c n (a :: es) with
      | some wo, some wa => metsW c m (a :: es).length wo wa
      | _, _ => none)
    | .Call (.Attribute o m apos) [] [] pos => og ((apos.endLine == pos.line) && attrX o) (if m = "bit_length" then (trE c n o).map wBits else match trE c n o with
      | some wo => metsW c m 0 wo wNil
      | none => none)
    | .ListComp elt [⟨tg, it, ifs, 0⟩] scope _ => og (blkChk c.sc scope && plainX it) (match trP (c.blk scope) tg with
      | some p => og (p.vs.all fun i => decide (i ∈ (ownOf c.N scope.names).map (·.2))) (o2 (fun wi te => wLc wi p te.1 te.2 ((ownOf c.N scope.names).map (·.2))) (trI c n tg it) (o2 Prod.mk (trC (c.blk scope) n ifs) (trE (c.blk scope) n elt)))
      | none => none)
    | _ => none
def trT (c : Ct) : Nat → Expr → Option WT
  | 0, _ => none
  | n + 1, e => match e with
    | .UnaryOp .Not a _ => (trT c n a).map wNotB
    | .BoolOp op vs pos => trB c n (.BoolOp op vs pos)
    | .Compare a [op] [b] _ => og (plainX b) (o2 (fun a b => wTsB (wOp (cmpD op) a b)) (trE c n a) (trE c n b))
    | .Compare a [op, op'] [b, d] _ => og (plainX d) (o2 (fun a bd => wTsB (wChain (cmpD op) (cmpD op') a bd.1 bd.2)) (trE c n a) (o2 Prod.mk (trE c n b) (trE c n d)))
    | e => og (truX e) ((trE c n e).map wTst)
def trB (c : Ct) : Nat → Expr → Option WT
  | 0, _ => none
  | n + 1, e => match e with
    | .BoolOp _ [a] _ => trT c n a
    | .BoolOp .And (a :: b :: r) pos => o2 wAndB (trT c n a) (trB c n (.BoolOp .And (b :: r) pos))
    | .BoolOp .Or (a :: b :: r) pos => o2 wOrB (trT c n a) (trB c n (.BoolOp .Or (b :: r) pos))
    | _ => none
def trA (c : Ct) : Nat → List Expr → Option WA
  | 0, _ => none
  | n + 1, es => match es with
    | [] => some wNil
    | e :: r => og (plainX e) (o2 wCons (trE c n e) (trA c n r))
def trO (c : Ct) : Nat → Option Expr → Option WO
  | 0, _ => none
  | n + 1, o => match o with
    | none => some wNoP
    | some e => (trE c n e).map wPart
def trC (c : Ct) : Nat → List Expr → Option WT
  | 0, _ => none
  | n + 1, ifs => match ifs with
    | [] => some wYes
    | [e] => trT c n e
    | _ => none
def trI (c : Ct) : Nat → Expr → Expr → Option WI
  | 0, _, _ => none
  | n + 1, tg, e => match e with
    | .Call (.Name x p) as [] pos =>
      if x = "range" then og (isGl (c.sc.names.lookup x) && decide (x ∈ c.B) && plainAll as && (decide (as.length = 1) || decide (as.length = 2) || decide (as.length = 3))) ((trA c n as).map wRng)
      else if x = "enumerate" then og (isGl (c.sc.names.lookup x) && decide (x ∈ c.B) && plainAll as && decide (as.length = 1) && isTup tg) ((trA c n as).map wEnum)
      else (trE c n (.Call (.Name x p) as [] pos)).map wSeqI
    | e => (trE c n e).map wSeqI
end
end WW


set_option Elab.async false
set_option linter.all false
set_option maxRecDepth 100000
set_option maxHeartbeats 4000000
set_option autoImplicit false
namespace WW
open PySem PySem.Spec PyProof.Rows L2

/-- the machine's context is the one that the translation knows -/
structure CtOk (c : Ct) (X : Cx) : Prop where
  hN : X.N = c.N
  nd : c.N.Nodup
  hsc : X.env.scope = c.sc
  calm : X.calm = true
  pp : PassesOwn (model X.prog X.w) X.A X.env X.xe
  st : ∀ x, c.st x = true → L2.Loc X.env.scope x ∧ (X.fn x = true ∨ X.env.scope.names.lookup x = some .local)
  G : ∀ x m sp, c.G.lookup x = some (m, sp) → ∃ k f fd ps, FnOk X.prog X.w X.K X.mg X.base CX0 k f fd ps (spOf (kf X) m sp) ∧ Room k X.A ∧ X.mg x = some (.ref f) ∧ PySem.W.keepIn X.K (.ref f) = true ∧ Binds X.K fd ps []
  GX : ∀ x m sp, c.L.X.lookup x = some (m, sp) → ∃ k f fd ps, FnOk X.prog X.w X.K X.mg X.base (L2.CX X.prog X.w) k f fd ps (spOfX (kf X) m sp) ∧ Room k X.A ∧ X.mg x = some (.ref f) ∧ PySem.W.keepIn X.K (.ref f) = true ∧ Binds X.K fd ps []
  F : ∀ f cs, c.L.F.lookup f = some cs → ∀ x ∈ cs, FldOk X x f
  M : ∀ m ms, c.L.M.lookup m = some ms → ∀ t ∈ ms, MthOk X t.1 m t.2.1 t.2.2
  C : ∀ x n sp, c.L.C.lookup x = some (n, sp) → MakOk X x n sp
  B : ∀ x ∈ c.B, X.mg x = none
  SK : ∀ x dk, c.L.S.lookup x = some dk → SrtOk X x dk.1 dk.2
  hu : X.A.units + 65 < cLine
section
variable {c : Ct} {X : Cx}
theorem CtOk.hu1 (O : CtOk c X) : X.A.units + 1 < cLine := Nat.lt_of_le_of_lt (Nat.add_le_add_left (by decide) _) O.hu
theorem CtOk.slot (O : CtOk c X) {x : Str} {i : Nat} (h : slot c x = some i) : X.N[i]? = some x ∧ Vis X.env.scope x ∧ (x == ("__debug__" : Str)) = false ∧ (x == ("__classdict__" : Str)) = false := by
  unfold WW.slot at h
  split at h
  · rename_i q
    rw [Bool.and_eq_true_iff] at q
    obtain ⟨q1, q2⟩ := q
    unfold okName at q2
    rw [Bool.and_eq_true_iff] at q2
    refine ⟨by rw [O.hN]; exact idxS_get h, ?_, by simpa using q2.1, by simpa using q2.2⟩
    rw [O.hsc]
    unfold Vis
    revert q1
    cases c.sc.names.lookup x with
    | none => intro z; cases z
    | some k => cases k <;> simp [isVis]
  · cases h
theorem CtOk.slotS (O : CtOk c X) {x : Str} {i : Nat} (h : slotS c x = some i) : X.N[i]? = some x ∧ L2.Loc X.env.scope x ∧ (X.fn x = true ∨ X.env.scope.names.lookup x = some .local) := by
  unfold WW.slotS at h
  split at h
  · rename_i q
    rw [Bool.and_eq_true_iff] at q
    obtain ⟨q1, q2⟩ := O.st x q.1
    exact ⟨by rw [O.hN]; exact idxS_get h, q1, q2⟩
  · cases h
theorem CtOk.gl (O : CtOk c X) {x : Str} (h : isGl (c.sc.names.lookup x) = true) : Gl X x := by
  show X.env.scope.names.lookup x = some .globalImplicit
  rw [O.hsc]
  revert h
  cases c.sc.names.lookup x with
  | none => intro z; cases z
  | some k => cases k <;> simp [isGl]
theorem okName_of {x : Str} (h : okName x = true) : (x == ("__debug__" : Str)) = false := by
  unfold okName at h
  rw [Bool.and_eq_true_iff] at h
  simpa using h.1
theorem CtOk.cN (O : CtOk c X) : X.N.Nodup := by rw [O.hN]; exact O.nd
/-- the context of a comprehension's block -/
theorem CtOk.blk (O : CtOk c X) (scope : Scope) (s : Shared) (H : Hp) (C : Addr) (cl : List (Str × Addr)) (fp : List Addr) : CtOk (c.blk scope) (X.blk s H scope (compEnvC scope cl C X.env) fp) where
  hN := O.hN
  nd := O.nd
  hsc := by
    show relS scope X.env.scope = relS scope c.sc
    rw [O.hsc]
  calm := O.calm
  pp := PassesOwn.never
  st := fun x h => by
    have h : relSt scope (relS scope c.sc) x = true := h
    show L2.Loc (relS scope X.env.scope) x ∧ ((scope.names.lookup x == some .cell) = true ∨ (relS scope X.env.scope).names.lookup x = some .local)
    rw [O.hsc]
    unfold relSt at h
    unfold L2.Loc
    split at h
    · rename_i e
      exact ⟨.inl e, .inr e⟩
    · rename_i e
      refine ⟨.inr e, .inl ?_⟩
      rw [of_decide_eq_true h]
      rfl
    · cases h
  G := O.G
  GX := O.GX
  F := O.F
  M := fun m ms h t ht => ⟨(O.M m ms h t ht).ok⟩
  C := fun x n sp h => ⟨(O.C x n sp h).ok⟩
  B := O.B
  SK := fun x dk h => let ⟨k, f, a, b, d⟩ := O.SK x dk h; ⟨k, f, a, b, d⟩
  hu := O.hu
theorem CtOk.pg1 (O : CtOk c X) {x : Str} {i : Nat} {pos : Pos} (h : WW.slotS c x = some i) : PG X (.Name x pos) (gName i) :=
  let ⟨h1, h2, h3⟩ := O.slotS h
  pg_name O.cN h1 h2 h3
theorem CtOk.pgs (O : CtOk c X) : ∀ {es : List Expr} {is : List Nat}, slotsS c es = some is → PGs X es (gNames is) ∧ (assignEach es X.env).length = is.length ∧ (assignEach es X.env).findIdx? (·.1) = none
  | [], _, h => by
    cases h
    exact ⟨pgs_nil, rfl, rfl⟩
  | e :: r, is, h => by
    cases e with
    | Name x p =>
      obtain ⟨i, js, h1, h2, rfl⟩ := o2_iff h
      obtain ⟨g1, g2, g3⟩ := O.pgs h2
      refine ⟨pgs_cons (O.pg1 h1) g1, ?_, ?_⟩
      · show (assignEach r X.env).length + 1 = js.length + 1
        rw [g2]
      · show List.findIdx? (·.1) ((false, assign (.Name x p) X.env) :: assignEach r X.env) = none
        rw [List.findIdx?_cons]
        simp [g3]
    | _ => exact nomatch h
theorem CtOk.pg (O : CtOk c X) {tg : Expr} {p : Pat} (h : trP c tg = some p) : PG X tg (gP X.K p) := by
  cases tg with
  | Name x pos =>
    obtain ⟨i, h1, rfl⟩ := map_iff h
    exact O.pg1 h1
  | Tuple es k pos =>
    obtain ⟨is, h1, rfl⟩ := map_iff h
    obtain ⟨g1, g2, g3⟩ := O.pgs h1
    exact pg_tup O.calm g1 g2 g3
  | _ => exact nomatch h
theorem CtOk.pgQ (O : CtOk c X) {tg : Expr} {p : Pat} (h : trP c tg = some p) : PG X tg (gQ X.K p) := by
  cases tg with
  | Name x pos =>
    obtain ⟨i, h1, rfl⟩ := map_iff h
    exact O.pg1 h1
  | Tuple es k pos =>
    obtain ⟨is, h1, rfl⟩ := map_iff h
    obtain ⟨g1, g2, g3⟩ := O.pgs h1
    exact pg_or (pg_tup O.calm g1 g2 g3) (pg_lst O.calm g1 g2 g3)
  | _ => exact nomatch h
theorem blt_B (hc : X.calm = true) {x : Str} {id : String} {o : CalD} (h : bltOf x = some ((false, id), o)) : CalS X (.builtin id) o ∧ bootBuiltins x = some (.builtin id) ∧ x ≠ "__name__" := by
  unfold bltOf at h
  split at h
  · rename_i e; cases h; subst e; exact ⟨lenC_S, by decide +kernel, by decide⟩
  split at h
  · cases h
  split at h
  · cases h
  split at h
  · cases h
  split at h
  · cases h
  split at h
  · rename_i e; cases h; subst e; exact ⟨sumC_S hc, by decide +kernel, by decide⟩
  split at h
  · rename_i e; cases h; subst e; exact ⟨maxC_S hc, by decide +kernel, by decide⟩
  split at h
  · rename_i e; cases h; subst e; exact ⟨minC_S hc, by decide +kernel, by decide⟩
  split at h
  · rename_i e; cases h; subst e; exact ⟨sortC_S hc, by decide +kernel, by decide⟩
  · cases h
theorem blt_T {x : Str} {id : String} {o : CalD} (h : bltOf x = some ((true, id), o)) : CalS X (.type id) o ∧ bootBuiltins x = some (.type id) ∧ x ≠ "__name__" := by
  unfold bltOf at h
  split at h
  · cases h
  split at h
  · rename_i e; cases h; subst e; exact ⟨listC_S, by decide +kernel, by decide⟩
  split at h
  · rename_i e; cases h; subst e; exact ⟨tupleC_S, by decide +kernel, by decide⟩
  split at h
  · rename_i e; cases h; subst e; exact ⟨intC_S, by decide +kernel, by decide⟩
  split at h
  · rename_i e; cases h; subst e; exact ⟨strC_S, by decide +kernel, by decide⟩
  split at h
  · cases h
  split at h
  · cases h
  split at h
  · cases h
  split at h
  · cases h
  · cases h
def LenA (k : Nat) (w : WA) : Prop := ∀ ρ S Q, w ρ S Q → w ρ S fun ds S' => ds.length = k ∧ Q ds S'
/-- what the translation of a comprehension hands on -/
structure LcOk (X : Cx) (elt tg iter : Expr) (ifs : List Expr) (scope : Scope) (wi : WI) (p : Pat) (t : WT) (e : W) (own : List (Str × Nat)) : Prop where
  hi : PIw X tg iter wi
  ok : BlkOk X.N X.env.scope scope own
  mt : MonoT t
  me : MonoW e
  hp : ∀ i ∈ p.vs, i ∈ own.map (·.2)
  hg : ∀ (s : Shared) (H : Hp) (C : Addr) (cl : List (Str × Addr)) (fp : List Addr), PG (X.blk s H scope (compEnvC scope cl C X.env) fp) tg (gP X.K p)
  ht : ∀ (s : Shared) (H : Hp) (C : Addr) (cl : List (Str × Addr)) (fp : List Addr), PTs (X.blk s H scope (compEnvC scope cl C X.env) fp) ifs (tT (kf X) noY t)
  he : ∀ (s : Shared) (H : Hp) (C : Addr) (cl : List (Str × Addr)) (fp : List Addr), PE (X.blk s H scope (compEnvC scope cl C X.env) fp) elt (tE (kf X) noY e)
  pl : plainX iter = true
structure Snd (n : Nat) : Prop where
  E : ∀ c X e w, CtOk c X → trE c n e = some w → PEw X e w
  T : ∀ c X e w, CtOk c X → trT c n e = some w → PTw X e w
  W : ∀ c X e w, CtOk c X → trB c n e = some w → PWw X e w
  A : ∀ c X es w, CtOk c X → trA c n es = some w → PAw X es w ∧ LenA es.length w
  O : ∀ c X o w, CtOk c X → trO c n o = some w → POw X o w
  C : ∀ c X ifs w, CtOk c X → trC c n ifs = some w → PTsw X ifs w
  I : ∀ c X tg e w, CtOk c X → trI c n tg e = some w → PIw X tg e w
theorem PWw.pt {e : Expr} {w : WT} (h : PWw X e w) : PTw X e w := ⟨h.mono, fun Y tk => (h.pe Y tk).pt⟩
theorem snd_lc {n : Nat} (S : Snd n) (O : CtOk c X) {elt tg it : Expr} {ifs : List Expr} {scope : Scope} {w : W}
    (h : og (blkChk c.sc scope && plainX it) (match trP (c.blk scope) tg with
      | some p => og (p.vs.all fun i => decide (i ∈ (ownOf c.N scope.names).map (·.2))) (o2 (fun wi te => wLc wi p te.1 te.2 ((ownOf c.N scope.names).map (·.2))) (trI c n tg it) (o2 Prod.mk (trC (c.blk scope) n ifs) (trE (c.blk scope) n elt)))
      | none => none) = some w) : ∃ wi p t e, LcOk X elt tg it ifs scope wi p t e (ownOf c.N scope.names) ∧ w = wLc wi p t e ((ownOf c.N scope.names).map (·.2)) := by
  obtain ⟨h1, h2⟩ := og_iff h
  obtain ⟨h0, h1⟩ := Bool.and_eq_true_iff.mp h1
  split at h2
  · rename_i p hp
    obtain ⟨h3, h4⟩ := og_iff h2
    obtain ⟨wi, te, h5, h6, rfl⟩ := o2_iff h4
    obtain ⟨t, e, h7, h8, rfl⟩ := o2_iff h6
    -- any block will do for what is monotone
    have Z := fun (s : Shared) (H : Hp) (C : Addr) (cl : List (Str × Addr)) (fp : List Addr) => O.blk scope s H C cl fp
    refine ⟨wi, p, t, e, ⟨S.I c X tg it wi O h5, ?_, ?_, ?_, fun i hi => of_decide_eq_true (List.all_eq_true.mp h3 i hi), fun s H C cl fp => (Z s H C cl fp).pg hp, fun s H C cl fp => (S.C _ _ _ _ (Z s H C cl fp) h7).pe noY takesNo, fun s H C cl fp => (S.E _ _ _ _ (Z s H C cl fp) h8).pe noY takesNo, h1⟩, rfl⟩
    · rw [O.hN, O.hsc]
      exact blk_of h0
    · exact (S.C _ _ _ _ (Z X.s_0 X.H_0 0 [] []) h7).mono
    · exact (S.E _ _ _ _ (Z X.s_0 X.H_0 0 [] []) h8).mono
  · cases h2
/-- one of several readings -/
theorem pw_all {e : Expr} : ∀ {ws : List W} {w : W}, (∀ v ∈ ws, PEw X e v) → orAll ws = some w → PEw X e w
  | [], _, _, h => nomatch h
  | [v], _, g, h => by cases h; exact g _ List.mem_cons_self
  | v :: u :: r, _, g, h => by
    obtain ⟨w, h1, rfl⟩ := map_iff h
    exact pw_or2 (g v List.mem_cons_self) (pw_all (fun z hz => g z (List.mem_cons_of_mem _ hz)) h1)
theorem bltM_ok (hu : X.A.units + 1 < cLine) {m : Str} {k : Nat} {b : BM} (h : b ∈ bltM m k) : PlainAttrs b.T ∧ Slot b.T m b.id ∧ typeOf (.builtin b.id) = pure (.type "method_descriptor") ∧ MetS X b.T b.id b.ty b.o := by
  unfold bltM at h
  split at h
  · rename_i e
    subst e
    split at h
    · rw [List.mem_singleton] at h
      subst h
      exact ⟨PySem.F.plainAttrs_list, PySem.F.slot_list_append, PySem.F.type_list_append, appM_S⟩
    · cases h
  split at h
  · rename_i e
    subst e
    split at h
    · rw [List.mem_singleton] at h
      subst h
      exact ⟨PySem.F.plainAttrs_list, PySem.F.slot_list_extend, PySem.F.type_list_extend, extM_S⟩
    · cases h
  split at h
  · rename_i e
    subst e
    split at h
    · rw [List.mem_singleton] at h
      subst h
      exact ⟨PySem.F.plainAttrs_list, PySem.F.slot_list_pop, PySem.F.type_list_pop, popM_S⟩
    split at h
    · rw [List.mem_singleton] at h
      subst h
      exact ⟨PySem.F.plainAttrs_list, PySem.F.slot_list_pop, PySem.F.type_list_pop, popAtM_S⟩
    · cases h
  split at h
  · rename_i e
    subst e
    split at h
    · rw [List.mem_singleton] at h
      subst h
      exact ⟨PySem.F.plainAttrs_list, PySem.F.slot_list_insert, PySem.F.type_list_insert, insM_S⟩
    · cases h
  split at h
  · rename_i e
    subst e
    split at h
    · rw [List.mem_singleton] at h
      subst h
      exact ⟨PySem.F.plainAttrs_list, PySem.F.slot_list_index, PySem.F.type_list_index, idxM_S⟩
    · cases h
  split at h
  · rename_i e
    subst e
    split at h
    · rw [List.mem_singleton] at h
      subst h
      exact ⟨PySem.F.plainAttrs_dict, PySem.F.slot_dict_get, PySem.F.type_dict_get, getM_S hu⟩
    · cases h
  split at h
  · rename_i e
    subst e
    split at h
    · rw [List.mem_singleton] at h
      subst h
      exact ⟨PySem.F.plainAttrs_str, PySem.F.slot_str_join, PySem.F.type_str_join, joinM_S⟩
    · cases h
  · cases h
theorem clsM_ok (O : CtOk c X) {m : Str} {k : Nat} {t : Str × Nat × Spec} (h : t ∈ clsM c m k) : MthOk X t.1 m k t.2.2 ∧ t.2.1 = k := by
  unfold clsM at h
  split at h
  · rename_i ms e
    obtain ⟨h1, h2⟩ := List.mem_filter.mp h
    have h3 := of_decide_eq_true h2
    have := O.M m ms e t h1
    rw [h3] at this
    exact ⟨this, h3⟩
  · cases h
theorem pw_mets (O : CtOk c X) {o a : Expr} {es : List Expr} {m : Str} {wo : W} {wa : WA} {w : W} {apos pos : Pos} (ho : PEw X o wo) (ha : PAw X (a :: es) wa) (g1 : (apos.endLine == pos.line) = true) (g2 : attrX o = true) (g3 : plainAll (a :: es) = true) (g4 : (a :: es).length < 30)
    (h : metsW c m (a :: es).length wo wa = some w) : PEw X (.Call (.Attribute o m apos) (a :: es) [] pos) w := by
  obtain ⟨p1, p2⟩ := Bool.and_eq_true_iff.mp g3
  refine pw_all (fun v hv => ?_) h
  rcases List.mem_append.mp hv with z | z
  · obtain ⟨b, hb, rfl⟩ := List.mem_map.mp z
    obtain ⟨b1, b2, b3, b4⟩ := bltM_ok (X := X) O.hu1 hb
    exact pw_met b4 b1 b2 b3 ho ha (ab_of g2) (few_of g3 g4) g1 (ns_of es p1) (back_of p2)
  · obtain ⟨t, ht, rfl⟩ := List.mem_map.mp z
    obtain ⟨t1, t2⟩ := clsM_ok O ht
    rw [t2]
    exact pw_mth t1 ho ha (ab_of g2) (few_of g3 g4) g1 (ns_of es p1) (back_of p2)
theorem pw_mets0 (O : CtOk c X) {o : Expr} {m : Str} {wo : W} {w : W} {apos pos : Pos} (ho : PEw X o wo) (g1 : (apos.endLine == pos.line) = true) (g2 : attrX o = true)
    (h : metsW c m 0 wo wNil = some w) : PEw X (.Call (.Attribute o m apos) [] [] pos) w := by
  refine pw_all (fun v hv => ?_) h
  rcases List.mem_append.mp hv with z | z
  · obtain ⟨b, hb, rfl⟩ := List.mem_map.mp z
    obtain ⟨b1, b2, b3, b4⟩ := bltM_ok (X := X) O.hu1 hb
    exact pw_met0 b4 b1 b2 b3 ho (ab_of g2) g1
  · obtain ⟨t, ht, rfl⟩ := List.mem_map.mp z
    obtain ⟨t1, t2⟩ := clsM_ok O ht
    rw [t2]
    exact pw_mth0 t1 ho (ab_of g2) g1
theorem bltN_ok (O : CtOk c X) {y : Str} (h : bltN c y = true) : Gl X y ∧ X.mg y = none := by
  obtain ⟨h1, h2⟩ := Bool.and_eq_true_iff.mp h
  exact ⟨O.gl h2, O.B y (of_decide_eq_true h1)⟩
theorem snd_sx {n : Nat} (S : Snd n) (O : CtOk c X) {x : Str} {a : Expr} {es : List Expr} {s : Sx} {w : W} {p pos : Pos} (g1 : isGl (c.sc.names.lookup x) = true) (h : sxOf c x a es = some s)
    (hw : (match s with
      | .lstR b => (trE c n b).map fun w => wLstR (wCons w wNil)
      | .tupR b => (trE c n b).map fun w => wTupR (wCons w wNil)
      | .tupR2 b d => o2 (fun v w => wTupR (wCons v (wCons w wNil))) (trE c n b) (trE c n d)
      | .sset b => (trE c n b).map wSSet
      | .isi t b => (trE c n b).map (wIsi t)) = some w) (hp : plainX a = true) : PEw X (.Call (.Name x p) (a :: es) [] pos) w := by
  unfold sxOf at h
  split at h
  · rename_i ex
    subst ex
    split at h
    · obtain ⟨q, h⟩ := og_iff h
      cases h
      obtain ⟨wr, h1, rfl⟩ := map_iff hw
      rw [Bool.and_eq_true_iff, Bool.and_eq_true_iff, Bool.and_eq_true_iff] at q
      obtain ⟨⟨⟨q1, q2⟩, q3⟩, q4⟩ := q
      have hy := of_decide_eq_true q2
      subst hy
      obtain ⟨y1, y2⟩ := bltN_ok O q3
      exact pw_lstR1 O.calm (O.gl g1) (O.B _ (of_decide_eq_true q1)) y1 y2 (S.E _ _ _ _ O h1) (ns_of [] q4)
    · cases h
  split at h
  · rename_i ex
    subst ex
    split at h
    · obtain ⟨q, h⟩ := og_iff h
      cases h
      obtain ⟨wr, h1, rfl⟩ := map_iff hw
      rw [Bool.and_eq_true_iff, Bool.and_eq_true_iff, Bool.and_eq_true_iff] at q
      obtain ⟨⟨⟨q1, q2⟩, q3⟩, q4⟩ := q
      have hy := of_decide_eq_true q2
      subst hy
      obtain ⟨y1, y2⟩ := bltN_ok O q3
      exact pw_tupR1 O.calm (O.gl g1) (O.B _ (of_decide_eq_true q1)) y1 y2 (S.E _ _ _ _ O h1) (ns_of [] q4)
    · obtain ⟨q, h⟩ := og_iff h
      cases h
      obtain ⟨v, wr, h1, h2, rfl⟩ := o2_iff hw
      rw [Bool.and_eq_true_iff, Bool.and_eq_true_iff, Bool.and_eq_true_iff, Bool.and_eq_true_iff] at q
      obtain ⟨⟨⟨⟨q1, q2⟩, q3⟩, q4⟩, q5⟩ := q
      have hy := of_decide_eq_true q2
      subst hy
      obtain ⟨y1, y2⟩ := bltN_ok O q3
      exact pw_tupR2 O.calm (O.gl g1) (O.B _ (of_decide_eq_true q1)) y1 y2 (S.E _ _ _ _ O h1) (S.E _ _ _ _ O h2) (by rw [ns_of [_] q4]) (ns_of [] q5) (by rw [ns_of [] q5]; rfl)
    · cases h
  split at h
  · rename_i ex
    subst ex
    split at h
    · obtain ⟨q, h⟩ := og_iff h
      cases h
      obtain ⟨wr, h1, rfl⟩ := map_iff hw
      rw [Bool.and_eq_true_iff, Bool.and_eq_true_iff, Bool.and_eq_true_iff] at q
      obtain ⟨⟨⟨q1, q2⟩, q3⟩, q4⟩ := q
      have hy := of_decide_eq_true q2
      subst hy
      obtain ⟨y1, y2⟩ := bltN_ok O q3
      exact pw_sset (O.gl g1) (O.B _ (of_decide_eq_true q1)) y1 y2 (S.E _ _ _ _ O h1) O.calm (ns_of [] q4)
    · cases h
  split at h
  · rename_i ex
    subst ex
    split at h
    · obtain ⟨q, h⟩ := og_iff h
      obtain ⟨t, ht, rfl⟩ := map_iff h
      obtain ⟨wr, h1, rfl⟩ := map_iff hw
      obtain ⟨q1, q2⟩ := Bool.and_eq_true_iff.mp q
      obtain ⟨y1, y2⟩ := bltN_ok O q2
      exact pw_isi (O.gl g1) (O.B _ (of_decide_eq_true q1)) ht y1 y2 (S.E _ _ _ _ O h1) (ns_of _ hp)
    · cases h
  · cases h
theorem snd_E {n : Nat} (S : Snd n) : ∀ c X e w, CtOk c X → trE c (n + 1) e = some w → PEw X e w := by
  intro c X e w O h
  unfold trE at h
  split at h
  · obtain ⟨i, h1, rfl⟩ := map_iff h
    obtain ⟨a, b, d, e⟩ := O.slot h1
    exact pw_var a b d e
  · rename_i k _ _
    obtain ⟨d, h1, rfl⟩ := map_iff h
    cases k <;> cases h1
    · exact pw_cst pe_non fun _ _ => rfl
    · exact pw_cst pe_bl fun _ _ => rfl
    · exact pw_cst pe_int fun _ _ => rfl
    · exact pw_cst pe_str fun _ _ => rfl
  · obtain ⟨a, b, h1, h2, rfl⟩ := o2_iff h
    exact pw_bin (S.E _ _ _ _ O h1) (S.E _ _ _ _ O h2)
  · obtain ⟨a, h1, rfl⟩ := map_iff h
    exact pw_neg (S.E _ _ _ _ O h1)
  · obtain ⟨a, h1, rfl⟩ := map_iff h
    exact pw_notV (S.E _ _ _ _ O h1)
  · exact pw_one (S.E _ _ _ _ O h)
  · obtain ⟨a, b, h1, h2, rfl⟩ := o2_iff h
    exact pw_andV (S.E _ _ _ _ O h1) (S.E _ _ _ _ O h2)
  · obtain ⟨a, b, h1, h2, rfl⟩ := o2_iff h
    exact pw_orV (S.E _ _ _ _ O h1) (S.E _ _ _ _ O h2)
  · obtain ⟨t, ab, h1, h2, rfl⟩ := o2_iff h
    obtain ⟨a, b, h3, h4, rfl⟩ := o2_iff h2
    exact pw_if (S.T _ _ _ _ O h1) (S.E _ _ _ _ O h3) (S.E _ _ _ _ O h4)
  · obtain ⟨g, h⟩ := og_iff h
    obtain ⟨a, b, h1, h2, rfl⟩ := o2_iff h
    exact pw_cmp O.hu (S.E _ _ _ _ O h1) (S.E _ _ _ _ O h2) (bm_of g)
  · obtain ⟨g, h⟩ := og_iff h
    obtain ⟨a, bd, h1, h2, rfl⟩ := o2_iff h
    obtain ⟨b, d, h3, h4, rfl⟩ := o2_iff h2
    exact pw_chain O.hu (S.E _ _ _ _ O h1) (S.E _ _ _ _ O h3) (S.E _ _ _ _ O h4) (bm_of g)
  · obtain ⟨a, h1, rfl⟩ := map_iff h
    exact pw_tup (S.A _ _ _ _ O h1).1
  · obtain ⟨a, h1, rfl⟩ := map_iff h
    exact pw_lst (S.A _ _ _ _ O h1).1
  · obtain ⟨a, lh, h1, h2, rfl⟩ := o2_iff h
    obtain ⟨b, d, h3, h4, rfl⟩ := o2_iff h2
    exact pw_slc (S.E _ _ _ _ O h1) (S.O _ _ _ _ O h3) (S.O _ _ _ _ O h4)
  · obtain ⟨g, h⟩ := og_iff h
    obtain ⟨a, b, h1, h2, rfl⟩ := o2_iff h
    exact pw_idx O.hu1 (S.E _ _ _ _ O h1) (S.E _ _ _ _ O h2) (ix_of g)
  · obtain ⟨g, h⟩ := og_iff h
    split at h
    · rename_i cs hF
      obtain ⟨wo, h1, rfl⟩ := map_iff h
      exact pw_fld (O.F _ _ hF) (S.E _ _ _ _ O h1) (ab_of g)
    · cases h
  · cases h
    exact pw_dct
  · rename_i x p pos
    obtain ⟨g, h⟩ := og_iff h
    obtain ⟨g1, g2⟩ := Bool.and_eq_true_iff.mp g
    split at h
    · rename_i sp hC
      cases h
      exact pw_mak0 (O.C x 0 sp hC) (O.gl g1) (okName_of g2)
    · cases h
  · rename_i x p a es pos
    obtain ⟨g, h⟩ := og_iff h
    rw [Bool.and_eq_true_iff, Bool.and_eq_true_iff] at g
    obtain ⟨⟨g1, g2⟩, g3⟩ := g
    obtain ⟨g4, g5⟩ := Bool.and_eq_true_iff.mp g3
    split at h
    · rename_i m sp hG
      obtain ⟨wr, h1, rfl⟩ := map_iff h
      obtain ⟨k, f, fd, ps, F, hr, hm, hk, hb⟩ := O.G x m sp hG
      exact pw_call F hr (O.gl g1) hm hk hb (S.A _ _ _ _ O h1).1 (okName_of g2) (ns_of es g4) (back_of g5)
    split at h
    · rename_i m sp hG
      obtain ⟨wr, h1, rfl⟩ := map_iff h
      obtain ⟨k, f, fd, ps, F, hr, hm, hk, hb⟩ := O.GX x m sp hG
      exact pw_callX F hr (O.gl g1) hm hk hb (S.A _ _ _ _ O h1).1 (okName_of g2) (ns_of es g4) (back_of g5)
    split at h
    · rename_i m sp hG
      obtain ⟨wr, h1, rfl⟩ := map_iff h
      exact pw_mak (O.C x m sp hG) (O.gl g1) (S.A _ _ _ _ O h1).1 (okName_of g2) (ns_of es g4) (back_of g5)
    split at h
    · rename_i hs
      exact snd_sx S O g1 hs h g4
    · rename_i hs
      exact snd_sx S O g1 hs h g4
    · rename_i hs
      exact snd_sx S O g1 hs h g4
    · rename_i hs
      exact snd_sx S O g1 hs h g4
    · rename_i hs
      exact snd_sx S O g1 hs h g4
    · split at h
      · rename_i ti o hb
        obtain ⟨q, h⟩ := og_iff h
        obtain ⟨wr, h1, rfl⟩ := map_iff h
        obtain ⟨t, id⟩ := ti
        cases t with
        | false =>
          obtain ⟨b1, b2, b3⟩ := blt_B (X := X) O.calm hb
          exact pw_bltB b1 (O.gl g1) (O.B x (of_decide_eq_true q)) b2 (S.A _ _ _ _ O h1).1 b3 (okName_of g2) (ns_of es g4) (back_of g5)
        | true =>
          obtain ⟨b1, b2, b3⟩ := blt_T (X := X) hb
          exact pw_bltT b1 (O.gl g1) (O.B x (of_decide_eq_true q)) b2 (S.A _ _ _ _ O h1).1 b3 (okName_of g2) (ns_of es g4) (back_of g5)
      · cases h
  · rename_i x p a y z p2 q pos
    obtain ⟨g, h'⟩ := og_iff h
    clear h
    rw [Bool.and_eq_true_iff, Bool.and_eq_true_iff, Bool.and_eq_true_iff, Bool.and_eq_true_iff, Bool.and_eq_true_iff] at g
    obtain ⟨⟨⟨⟨⟨g1, g2⟩, g3⟩, g4⟩, g5⟩, g6⟩ := g
    have e1 := of_decide_eq_true g1
    have e2 := of_decide_eq_true g2
    subst e1 e2
    obtain ⟨y1, y2⟩ := bltN_ok O g3
    split at h'
    · rename_i dk hS
      obtain ⟨w0, h1, rfl⟩ := map_iff h'
      exact pw_srtK y1 y2 (O.SK _ dk hS) (O.gl g4) (okName_of g5) (S.E _ _ _ _ O h1) (ns_of [] g6)
    · cases h'
  · rename_i o m apos a es pos
    obtain ⟨g, h⟩ := og_iff h
    rw [Bool.and_eq_true_iff, Bool.and_eq_true_iff, Bool.and_eq_true_iff] at g
    obtain ⟨⟨⟨g1, g2⟩, g3⟩, g4⟩ := g
    split at h
    · rename_i wo wa h1 h2
      exact pw_mets O (S.E _ _ _ _ O h1) (S.A _ _ _ _ O h2).1 g1 g2 g3 (of_decide_eq_true g4) h
    · cases h
  · rename_i o m apos pos
    obtain ⟨g, h'⟩ := og_iff h
    clear h
    obtain ⟨g1, g2⟩ := Bool.and_eq_true_iff.mp g
    split at h'
    · rename_i e
      subst e
      obtain ⟨wo, h1, rfl⟩ := map_iff h'
      exact pw_bits (S.E _ _ _ _ O h1) (ab_of g2) g1
    · split at h'
      · rename_i wo h1
        exact pw_mets0 O (S.E _ _ _ _ O h1) g1 g2 h'
      · cases h'
  · obtain ⟨wi, p, t, e, L, rfl⟩ := snd_lc S O h
    exact pw_lc O.calm O.cN L.hi L.ok L.mt L.me L.hp L.hg L.ht L.he (fs_of L.pl)
  · cases h
theorem snd_T {n : Nat} (S : Snd n) : ∀ c X e w, CtOk c X → trT c (n + 1) e = some w → PTw X e w := by
  intro c X e w O h
  unfold trT at h
  split at h
  · obtain ⟨a, h1, rfl⟩ := map_iff h
    exact pw_notT (S.T _ _ _ _ O h1)
  · exact (S.W _ _ _ _ O h).pt
  · obtain ⟨g, h⟩ := og_iff h
    obtain ⟨a, b, h1, h2, rfl⟩ := o2_iff h
    exact pw_cmpT O.hu (S.E _ _ _ _ O h1) (S.E _ _ _ _ O h2) (bm_of g)
  · obtain ⟨g, h⟩ := og_iff h
    obtain ⟨a, bd, h1, h2, rfl⟩ := o2_iff h
    obtain ⟨b, d, h3, h4, rfl⟩ := o2_iff h2
    exact pw_chainT O.hu (S.E _ _ _ _ O h1) (S.E _ _ _ _ O h3) (S.E _ _ _ _ O h4) (bm_of g)
  · obtain ⟨g, h⟩ := og_iff h
    obtain ⟨a, h1, rfl⟩ := map_iff h
    exact pw_truth (S.E _ _ _ _ O h1) (tr_of g)
theorem snd_W {n : Nat} (S : Snd n) : ∀ c X e w, CtOk c X → trB c (n + 1) e = some w → PWw X e w := by
  intro c X e w O h
  unfold trB at h
  split at h
  · rename_i op a pos
    cases op with
    | And => exact pw_and1T (S.T _ _ _ _ O h)
    | Or => exact pw_or1T (S.T _ _ _ _ O h)
  · obtain ⟨a, b, h1, h2, rfl⟩ := o2_iff h
    exact pw_andT (S.T _ _ _ _ O h1) (S.W _ _ _ _ O h2)
  · obtain ⟨a, b, h1, h2, rfl⟩ := o2_iff h
    exact pw_orT (S.T _ _ _ _ O h1) (S.W _ _ _ _ O h2)
  · cases h
theorem snd_A {n : Nat} (S : Snd n) : ∀ c X es w, CtOk c X → trA c (n + 1) es = some w → PAw X es w ∧ LenA es.length w := by
  intro c X es w O h
  unfold trA at h
  split at h
  · cases h
    exact ⟨pw_nil, fun ρ S Q q => ⟨rfl, q⟩⟩
  · rename_i e r
    obtain ⟨g, h⟩ := og_iff h
    obtain ⟨a, b, h1, h2, rfl⟩ := o2_iff h
    have E1 := S.E _ _ _ _ O h1
    obtain ⟨A1, L1⟩ := S.A _ _ _ _ O h2
    refine ⟨pw_cons E1 A1 (ns_of r g), fun ρ S Q q => E1.mono _ _ _ _ (fun x S1 q1 => ?_) q⟩
    exact A1.mono _ _ _ _ (fun ds S2 q2 => ⟨by rw [List.length_cons, List.length_cons, q2.1], q2.2⟩) (L1 _ _ _ q1)
theorem snd_O {n : Nat} (S : Snd n) : ∀ c X o w, CtOk c X → trO c (n + 1) o = some w → POw X o w := by
  intro c X o w O h
  unfold trO at h
  split at h
  · cases h
    exact pw_oNone
  · obtain ⟨a, h1, rfl⟩ := map_iff h
    exact pw_oSome (S.E _ _ _ _ O h1)
theorem snd_C {n : Nat} (S : Snd n) : ∀ c X o w, CtOk c X → trC c (n + 1) o = some w → PTsw X o w := by
  intro c X o w O h
  unfold trC at h
  split at h
  · cases h
    exact pw_ifs0
  · exact pw_ifs1 (S.T _ _ _ _ O h)
  · cases h
theorem snd_I {n : Nat} (S : Snd n) : ∀ c X tg e w, CtOk c X → trI c (n + 1) tg e = some w → PIw X tg e w := by
  intro c X tg e w O h
  unfold trI at h
  split at h
  · rename_i x p as pos
    split at h
    · rename_i ex
      subst ex
      obtain ⟨g, h⟩ := og_iff h
      obtain ⟨wr, h1, rfl⟩ := map_iff h
      obtain ⟨A1, L1⟩ := S.A _ _ _ _ O h1
      rw [Bool.and_eq_true_iff, Bool.and_eq_true_iff, Bool.and_eq_true_iff] at g
      obtain ⟨⟨⟨g1, g2⟩, g3⟩, g4⟩ := g
      have hm := O.B _ (of_decide_eq_true g2)
      match as, g3, g4, A1, L1 with
      | [a], g3, _, A1, L1 =>
        obtain ⟨p1, _⟩ := Bool.and_eq_true_iff.mp g3
        exact pw_rng1 (O.gl g1) hm A1 L1 (ns_of [] p1)
      | [a, b], g3, _, A1, L1 =>
        obtain ⟨p1, p2⟩ := Bool.and_eq_true_iff.mp g3
        obtain ⟨p2, _⟩ := Bool.and_eq_true_iff.mp p2
        exact pw_rng2 (O.gl g1) hm A1 L1 (by rw [ns_of [b] p1, ns_of [] p2]; rfl) (ns_of [] p2)
      | [a, b, d], g3, _, A1, L1 =>
        obtain ⟨p1, p2⟩ := Bool.and_eq_true_iff.mp g3
        exact pw_rng3 (O.gl g1) hm A1 L1 (ns_of [b, d] p1) (back_of p2)
      | [], _, g4, _, _ => simp at g4
      | _ :: _ :: _ :: _ :: _, _, g4, _, _ => simp at g4
    · split at h
      · rename_i ex
        subst ex
        obtain ⟨g, h⟩ := og_iff h
        obtain ⟨wr, h1, rfl⟩ := map_iff h
        obtain ⟨A1, L1⟩ := S.A _ _ _ _ O h1
        rw [Bool.and_eq_true_iff, Bool.and_eq_true_iff, Bool.and_eq_true_iff, Bool.and_eq_true_iff] at g
        obtain ⟨⟨⟨⟨g1, g2⟩, g3⟩, g4⟩, g5⟩ := g
        have hm := O.B _ (of_decide_eq_true g2)
        cases tg <;> try (exact absurd g5 Bool.false_ne_true)
        match as, g3, g4, A1 with
        | [a], g3, _, A1 =>
          obtain ⟨p1, _⟩ := Bool.and_eq_true_iff.mp g3
          exact pw_enum (O.gl g1) hm A1 (ns_of [] p1)
        | [], _, g4, _ => simp at g4
        | _ :: _ :: _, _, g4, _ => simp at g4
      · obtain ⟨w1, h1, rfl⟩ := map_iff h
        exact pw_seqI (S.E _ _ _ _ O h1)
  · obtain ⟨w1, h1, rfl⟩ := map_iff h
    exact pw_seqI (S.E _ _ _ _ O h1)
theorem snd : ∀ n, Snd n
  | 0 => ⟨fun _ _ _ _ _ h => (by cases h), fun _ _ _ _ _ h => (by cases h), fun _ _ _ _ _ h => (by cases h), fun _ _ _ _ _ h => (by cases h), fun _ _ _ _ _ h => (by cases h), fun _ _ _ _ _ h => (by cases h), fun _ _ _ _ _ _ h => (by cases h)⟩
  | n + 1 => ⟨snd_E (snd n), snd_T (snd n), snd_W (snd n), snd_A (snd n), snd_O (snd n), snd_C (snd n), snd_I (snd n)⟩
end
end WW


set_option Elab.async false
set_option linter.all false
set_option maxRecDepth 100000
set_option maxHeartbeats 4000000
set_option autoImplicit false
namespace WW
open PySem PySem.Spec PyProof.Rows L2

mutual
def trS (c : Ct) : Nat → Stmt → Option WS
  | 0, _ => none
  | n + 1, s => match s with
    | .Return none _ => some wRetN
    | .Return (some e) _ => (trE c n e).map wRet
    | .Expr e _ => og (!isComp e) ((trE c n e).map wDrop)
    | .Assign [.Name x _] e _ => o2 wAsg (slotS c x) (trE c n e)
    | .Assign [.Tuple es k p] e _ => og (!isComp e && !isTup e) (o2 wAsgP (trP c (.Tuple es k p)) (trE c n e))
    | .Assign [.Attribute o f _] e _ => og (!isComp e) (match c.L.F.lookup f with
      | some cs => o2 (wFSet cs f) (trE c n o) (trE c n e)
      | none => none)
    | .Assign [.Subscript o i _] e _ => og (!isComp e && plainX i) (o2 (fun o ie => wSet o ie.1 ie.2) (trE c n o) (o2 Prod.mk (trE c n i) (trE c n e)))
    | .If t a b _ => o2 (fun t ab => wIfS t ab.1 ab.2) (trT c n t) (o2 Prod.mk (trL c n a) (trL c n b))
    | .While t b [] _ => o2 wWhl (trT c n t) (trL c n b)
    | .For tg (.Name x _) b [] _ => o2 (fun i pb => wForN i pb.1 pb.2) (slot c x) (o2 Prod.mk (trP c tg) (trL c n b))
    | .For tg it b [] _ => og (plainX it) (o2 (fun wi pb => wFor wi pb.1 pb.2) (trI c n tg it) (o2 Prod.mk (trP c tg) (trL c n b)))
    | .Break _ => some wBrk
    | .Continue _ => some wCnt
    | .Pass _ => some wPas
    | _ => none
def trL (c : Ct) : Nat → List Stmt → Option WS
  | 0, _ => none
  | n + 1, ss => match ss with
    | [] => some wPas
    | [s] => trS c n s
    | s :: r => o2 wSq (trS c n s) (trL c n r)
end
structure SndS (n : Nat) : Prop where
  S : ∀ c X s w, CtOk c X → trS c n s = some w → PSw X s w
  L : ∀ c X s w, CtOk c X → trL c n s = some w → PBw X s w
theorem notB {b : Bool} (h : (!b) = true) : b = false := by cases b with
  | false => rfl
  | true => cases h
theorem asg_S {c : Ct} {X : Cx} {n : Nat} {x : Str} {e : Expr} {i : Nat} {w : W} {px pos : Pos} (O : CtOk c X) (h1 : WW.slotS c x = some i) (h2 : trE c n e = some w) : PSw X (.Assign [.Name x px] e pos) (wAsg i w) := by
  obtain ⟨a, b, d⟩ := O.slotS h1
  have P := (snd n).E _ _ _ _ O h2
  cases hc : isComp e with
  | false => exact pw_asg O.cN a b P (sw_of hc) d
  | true =>
    cases n with
    | zero => cases h2
    | succ n =>
      cases e with
      | ListComp elt gens scope p' =>
        match gens, h2, P with
        | [⟨tg, it, ifs, 0⟩], h2, P =>
          obtain ⟨wi, p, t, e, L, rfl⟩ := snd_lc (snd n) O h2
          have hsw : swapsWith (.ListComp elt [⟨tg, it, ifs, 0⟩] scope p') (some (.Name x px)) pos.line X.env = pure (X.env.blockKind == .function && X.env.kindOf x == some .local && px.line == p'.line && !(scope.names.any fun (n, k) => n == x && (k == .local || k == .cell))) := rfl
          cases hb : (X.env.blockKind == .function && X.env.kindOf x == some .local && px.line == p'.line && !(scope.names.any fun (n, k) => n == x && (k == .local || k == .cell))) with
          | false => exact pw_asg O.cN a b P (by rw [hsw, hb]) d
          | true =>
            have hk : X.env.kindOf x = some .local := by
              rw [Bool.and_eq_true_iff, Bool.and_eq_true_iff, Bool.and_eq_true_iff] at hb
              exact eq_of_beq hb.1.1.2
            exact pw_setLc O.calm O.cN a hk (by rw [hsw, hb]) L.hi L.ok L.mt L.me L.hp L.hg L.ht L.he (fs_of L.pl)
        | [], h2, _ => cases h2
        | [⟨_, _, _, Int.ofNat (_ + 1)⟩], h2, _ => cases h2
        | [⟨_, _, _, Int.negSucc _⟩], h2, _ => cases h2
        | ⟨_, _, _, Int.ofNat 0⟩ :: _ :: _, h2, _ => cases h2
        | ⟨_, _, _, Int.ofNat (_ + 1)⟩ :: _ :: _, h2, _ => cases h2
        | ⟨_, _, _, Int.negSucc _⟩ :: _ :: _, h2, _ => cases h2
      | SetComp _ _ _ _ => cases h2
      | DictComp _ _ _ _ _ => cases h2
      | _ => cases hc
theorem sws_of {env : PySem.Env} {e : Expr} {t : Expr} {l : Nat} (h : isComp e = false) : swapsWithSole [t] e l env = pure false := sw_of h
theorem sndS_S {n : Nat} (Z : SndS n) : ∀ c X s w, CtOk c X → trS c (n + 1) s = some w → PSw X s w := by
  intro c X s w O h
  unfold trS at h
  split at h
  · cases h
    exact pw_retN
  · obtain ⟨a, h1, rfl⟩ := map_iff h
    exact pw_ret ((snd n).E _ _ _ _ O h1)
  · obtain ⟨g, h⟩ := og_iff h
    obtain ⟨a, h1, rfl⟩ := map_iff h
    exact pw_drop ((snd n).E _ _ _ _ O h1) (sw_of (notB g))
  · obtain ⟨i, a, h1, h2, rfl⟩ := o2_iff h
    exact asg_S O h1 h2
  · obtain ⟨g, h⟩ := og_iff h
    obtain ⟨g1, g2⟩ := Bool.and_eq_true_iff.mp g
    obtain ⟨p, a, h1, h2, rfl⟩ := o2_iff h
    exact pw_asgP (O.pgQ h1) ((snd n).E _ _ _ _ O h2) (sws_of (notB g1)) (ss_of (notB g2)) rfl
  · obtain ⟨g, h⟩ := og_iff h
    split at h
    · rename_i cs hF
      obtain ⟨wo, we, h1, h2, rfl⟩ := o2_iff h
      exact pw_fset (O.F _ _ hF) ((snd n).E _ _ _ _ O h1) ((snd n).E _ _ _ _ O h2) (sw_of (notB g))
    · cases h
  · rename_i o i p e pos
    obtain ⟨g, h⟩ := og_iff h
    obtain ⟨g1, g2⟩ := Bool.and_eq_true_iff.mp g
    obtain ⟨wo, ie, h1, h2, rfl⟩ := o2_iff h
    obtain ⟨wi, we, h3, h4, rfl⟩ := o2_iff h2
    refine pw_setS O.hu1 ((snd n).E _ _ _ _ O h1) ((snd n).E _ _ _ _ O h3) ((snd n).E _ _ _ _ O h4) ?_ (sws_of (notB g1)) ?_ rfl
    · intro v
      cases i <;> first | rfl | exact absurd g2 Bool.false_ne_true
    · cases e <;> rfl
  · obtain ⟨t, ab, h1, h2, rfl⟩ := o2_iff h
    obtain ⟨a, b, h3, h4, rfl⟩ := o2_iff h2
    exact pw_ifS ((snd n).T _ _ _ _ O h1) (Z.L _ _ _ _ O h3) (Z.L _ _ _ _ O h4)
  · obtain ⟨t, b, h1, h2, rfl⟩ := o2_iff h
    exact pw_whl O.pp ((snd n).T _ _ _ _ O h1) (Z.L _ _ _ _ O h2)
  · obtain ⟨i, pb, h1, h2, rfl⟩ := o2_iff h
    obtain ⟨p, b, h3, h4, rfl⟩ := o2_iff h2
    obtain ⟨a1, a2, a3, a4⟩ := O.slot h1
    exact pw_forN O.pp O.calm (pw_var a1 a2 a3 a4) (O.pg h3) (Z.L _ _ _ _ O h4)
  · obtain ⟨g, h⟩ := og_iff h
    obtain ⟨wi, pb, h1, h2, rfl⟩ := o2_iff h
    obtain ⟨p, b, h3, h4, rfl⟩ := o2_iff h2
    exact pw_for O.pp O.calm ((snd n).I _ _ _ _ _ O h1) (O.pg h3) (Z.L _ _ _ _ O h4) (fs_of g)
  · cases h
    exact pw_brk
  · cases h
    exact pw_cnt
  · cases h
    exact pw_pas
  · cases h
theorem sndS_L {n : Nat} (Z : SndS n) : ∀ c X s w, CtOk c X → trL c (n + 1) s = some w → PBw X s w := by
  intro c X s w O h
  unfold trL at h
  split at h
  · cases h
    exact pw_sNil
  · exact pw_sOne (Z.S _ _ _ _ O h)
  · obtain ⟨a, b, h1, h2, rfl⟩ := o2_iff h
    exact pw_sCons (Z.S _ _ _ _ O h1) (Z.L _ _ _ _ O h2)
theorem sndS : ∀ n, SndS n
  | 0 => ⟨fun _ _ _ _ _ h => (by cases h), fun _ _ _ _ _ h => (by cases h)⟩
  | n + 1 => ⟨sndS_S (sndS n), sndS_L (sndS n)⟩

/-! ### a def: from its clean code to the machine's promise -/
def ctOf (N : List Str) (st : Stmt) (G : List (Str × Nat × Spec)) (B : List Str) (L : Kl) : Ct := ⟨N, defScope st, fun x => isLoc ((defScope st).names.lookup x), G, B, L⟩
def kkOf (Q : Q1) : KK := ⟨fun _ S => Q .non S, Q, fun _ _ => False, fun _ _ => False, fun _ _ _ _ => False⟩
def kkX (Q : Q1) (E : XQ) : KK := ⟨fun _ S => Q .non S, Q, fun _ _ => False, fun _ _ => False, fun c fs _ S => E c fs S⟩
def rhoOf (n : Nat) (ds : List D) : Rho := ds.map some ++ List.replicate (n - ds.length) none
/-- the clean code keeps the promise -/
def Good (n m : Nat) (code : WS) (sp : Spec) : Prop := ∀ ds S Q, ds.length = m → sp ds S Q → code (kkOf Q) (rhoOf n ds) S
def GoodX (n m : Nat) (code : WS) (sp : SpecX) : Prop := ∀ ds S Q E, ds.length = m → sp ds S Q E → code (kkX Q E) (rhoOf n ds) S
/-- a def that may be called -/
structure Known (P : Program) (w : World) (K : PySem.W.Frag) (mg : Str → Option Value) (base : Heap) (k : Nat) (x : Str) (m : Nat) (sp : Spec) : Prop where
  ok : ∃ f fd ps, FnOk P w K mg base CX0 k f fd ps (spOf ⟨K, clOf mg⟩ m sp) ∧ mg x = some (.ref f) ∧ PySem.W.keepIn K (.ref f) = true ∧ Binds K fd ps []
structure KnownX (P : Program) (w : World) (K : PySem.W.Frag) (mg : Str → Option Value) (base : Heap) (k : Nat) (x : Str) (m : Nat) (sp : SpecX) : Prop where
  ok : ∃ f fd ps, FnOk P w K mg base (L2.CX P w) k f fd ps (spOfX ⟨K, clOf mg⟩ m sp) ∧ mg x = some (.ref f) ∧ PySem.W.keepIn K (.ref f) = true ∧ Binds K fd ps []
structure KnownM (P : Program) (w : World) (K : PySem.W.Frag) (mg : Str → Option Value) (base : Heap) (k : Nat) (c m : Str) (n : Nat) (sp : Spec) : Prop where
  ok : ∃ f fd ps, FnOk P w K mg base CX0 k f fd ps (spOf ⟨K, clOf mg⟩ (n + 1) sp) ∧ Cls K (clOf mg c) ∧ Meth K (clOf mg c) m f ∧ Binds K fd ps []
structure KnownC (P : Program) (w : World) (K : PySem.W.Frag) (mg : Str → Option Value) (base : Heap) (k : Nat) (c : Str) (n : Nat) (sp : Spec) : Prop where
  ok : ∃ j C f fd ps, j + 1 ≤ k ∧ FnOk P w K mg base CX0 j f fd ps (spOf ⟨K, clOf mg⟩ (n + 1) sp) ∧ mg c = some (.ref C) ∧ Mk K C f ∧ Binds K fd ps []
/-- a def that sorts -/
def KnownS (P : Program) (w : World) (K : PySem.W.Frag) (mg : Str → Option Value) (k : Nat) (x : Str) (dom : Int → Prop) (key : Int → Int) : Prop := ∃ (j : Nat) (f : Addr), j + 2 ≤ k ∧ mg x = some (.ref f) ∧ KeyFn P w K j f dom key
structure KlOk (P : Program) (w : World) (K : PySem.W.Frag) (mg : Str → Option Value) (base : Heap) (k : Nat) (L : Kl) : Prop where
  F : ∀ f cs, L.F.lookup f = some cs → ∀ x ∈ cs, Cls K (clOf mg x) ∧ NoAttr K (clOf mg x) f
  M : ∀ m ms, L.M.lookup m = some ms → ∀ t ∈ ms, KnownM P w K mg base k t.1 m t.2.1 t.2.2
  C : ∀ x n sp, L.C.lookup x = some (n, sp) → KnownC P w K mg base k x n sp
  X : ∀ x n sp, L.X.lookup x = some (n, sp) → KnownX P w K mg base k x n sp
  S : ∀ x dk, L.S.lookup x = some dk → KnownS P w K mg k x dk.1 dk.2
section
variable {P : Program} {w : World} {K : PySem.W.Frag} {mg : Str → Option Value} {base : Heap}
theorem Known.mono {j k : Nat} {x : Str} {m : Nat} {sp : Spec} (h : Known P w K mg base j x m sp) (e : j ≤ k) : Known P w K mg base k x m sp :=
  let ⟨f, fd, ps, a, b⟩ := h.ok
  ⟨f, fd, ps, a.mono e, b⟩
theorem KnownX.mono {j k : Nat} {x : Str} {m : Nat} {sp : SpecX} (h : KnownX P w K mg base j x m sp) (e : j ≤ k) : KnownX P w K mg base k x m sp :=
  let ⟨f, fd, ps, a, b⟩ := h.ok
  ⟨f, fd, ps, a.mono e, b⟩
theorem KnownM.mono {j k : Nat} {c x : Str} {m : Nat} {sp : Spec} (h : KnownM P w K mg base j c x m sp) (e : j ≤ k) : KnownM P w K mg base k c x m sp :=
  let ⟨f, fd, ps, a, b⟩ := h.ok
  ⟨f, fd, ps, a.mono e, b⟩
theorem KnownC.mono {j k : Nat} {x : Str} {m : Nat} {sp : Spec} (h : KnownC P w K mg base j x m sp) (e : j ≤ k) : KnownC P w K mg base k x m sp :=
  let ⟨i, C, f, fd, ps, a, b⟩ := h.ok
  ⟨i, C, f, fd, ps, Nat.le_trans a e, b⟩
theorem KlOk.mono {j k : Nat} {L : Kl} (h : KlOk P w K mg base j L) (e : j ≤ k) : KlOk P w K mg base k L :=
  ⟨h.F, fun m ms a t b => (h.M m ms a t b).mono e, fun x n sp a => (h.C x n sp a).mono e, fun x n sp a => (h.X x n sp a).mono e, fun x dk a => let ⟨i, f, l, b⟩ := h.S x dk a; ⟨i, f, Nat.le_trans l e, b⟩⟩
theorem klOk0 {k : Nat} : KlOk P w K mg base k kl0 := ⟨fun _ _ h => (nomatch h), fun _ _ h => (nomatch h), fun _ _ _ h => (nomatch h), fun _ _ _ h => (nomatch h), fun _ _ h => (nomatch h)⟩
theorem klOkS {k : Nat} {x : Str} {dom : Int → Prop} {key : Int → Int} (h : KnownS P w K mg k x dom key) : KlOk P w K mg base k ⟨[], [], [], [], [(x, dom, key)]⟩ :=
  ⟨fun _ _ h => (nomatch h), fun _ _ h => (nomatch h), fun _ _ _ h => (nomatch h), fun _ _ _ h => (nomatch h), fun y dk e => by
    rw [List.lookup_cons] at e
    split at e
    · rename_i q
      rw [eq_of_beq q]
      cases e
      exact h
    · cases e⟩
/-- the context of a def's body -/
theorem ct_ok {X : Cx} {k : Nat} {N : List Str} {st : Stmt} {G : List (Str × Nat × Spec)} {B : List Str} {L : Kl} (eP : X.prog = P) (ew : X.w = w) (eK : X.K = K) (em : X.mg = mg) (eb : X.base = base) (eN : X.N = N) (nd : N.Nodup) (es : X.env.scope = defScope st) (ec : X.calm = true) (ef : X.fn = fun _ => true)
    (pp : PassesOwn (model X.prog X.w) X.A X.env X.xe) (hr : Room k X.A)
    (hG : ∀ y m sp, G.lookup y = some (m, sp) → Known P w K mg base k y m sp) (hB : ∀ y ∈ B, mg y = none) (hL : KlOk P w K mg base k L) : CtOk (ctOf N st G B L) X := by
  subst eP ew eK em eb
  refine ⟨eN, nd, es, ec, pp, fun y hy => ?_, fun y m sp hy => ?_, fun y m sp hy => ?_, fun f cs hf x hx => hL.F f cs hf x hx, fun m ms h t ht => ?_, fun x n sp h => ?_, hB, fun x dk h => ?_, ?_⟩
  · have hy : isLoc ((defScope st).names.lookup y) = true := hy
    refine ⟨?_, .inl (by rw [ef])⟩
    show X.env.scope.names.lookup y = some .local ∨ X.env.scope.names.lookup y = some .cell
    rw [es]
    revert hy
    cases (defScope st).names.lookup y with
    | none => intro z; cases z
    | some k => cases k <;> simp [isLoc]
  · obtain ⟨f, fd, ps, a, b, d, e⟩ := (hG y m sp hy).ok
    exact ⟨k, f, fd, ps, a, hr, b, d, e⟩
  · obtain ⟨f, fd, ps, a, b, d, e⟩ := (hL.X y m sp hy).ok
    exact ⟨k, f, fd, ps, a, hr, b, d, e⟩
  · obtain ⟨f, fd, ps, a, b, d, e⟩ := (hL.M m ms h t ht).ok
    exact ⟨k, f, fd, ps, a, hr, b, d, e⟩
  · obtain ⟨j, C, f, fd, ps, l, a, b, d, e⟩ := (hL.C x n sp h).ok
    exact ⟨j, C, f, fd, ps, a, hr.mono l, b, d, e⟩
  · obtain ⟨j, f, l, a, b⟩ := hL.S x dk h
    exact ⟨j, f, hr.mono l, a, b⟩
  · have := hr.un
    omega
theorem def_ok {x qual : Str} {st : Stmt} {f : Addr} {fd : FuncData} {N ps : List Str} {k n : Nat} {G : List (Str × Nat × Spec)} {B : List Str} {L : Kl} {sp : Spec} {code : WS} (F : Fun K x qual st f fd) (S : FnScope N ps (defScope st))
    (hG : ∀ y m sp, G.lookup y = some (m, sp) → Known P w K mg base k y m sp) (hB : ∀ y ∈ B, mg y = none) (hL : KlOk P w K mg base k L) (tr : trL (ctOf N st G B L) n (defBody st) = some code) (good : Good N.length ps.length code sp) :
    FnOk P w K mg base CX0 (k + 1) f fd ps (spOf ⟨K, clOf mg⟩ ps.length sp) := by
  refine F.ok S (fun vs H Q E h => ?_) (fun cdv A outer s H vs Q E hr h => ?_)
  · obtain ⟨ι, S, ds, R, r, hl, _⟩ := h
    rw [← r.length]; exact hl
  · obtain ⟨ι, S0, ds, R, r, hl, Q0, q0, q1⟩ := h
    generalize hX : (cxOf CX0 P w K mg base N qual (defScope st) f cdv A outer s H E).nox = X
    have ek : kf X = ⟨K, clOf mg⟩ := by
      rw [← hX]
      rfl
    have O : CtOk (ctOf N st G B L) X := by
      rw [← hX]
      exact ct_ok rfl rfl rfl rfl rfl rfl S.nd rfl rfl rfl PassesOwn.never hr hG hB hL
    have B := (sndS n).L _ _ _ _ O tr
    refine ⟨_, B.ps noY takesNo, kkOf Q0, rhoOf N.length ds, ι, S0, ?_, ?_, ?_, good ds S0 Q0 hl q0⟩
    · rw [ek]
      have e := RepR.start r (N.length - ds.length)
      unfold rhoOf L2.start
      rw [← r.length]
      exact e
    · rw [ek]; exact R
    · rw [ek]
      exact ⟨fun ρ S1 σ H1 ι1 T R1 E1 q => q1 _ _ q .non H1 ι1 T R1 rfl, fun d S1 v H1 ι1 T R1 rv q => q1 _ _ q v H1 ι1 T R1 rv, fun ρ S1 σ H1 ι1 T R1 E1 q => q.elim, fun ρ S1 σ H1 ι1 T R1 E1 q => q.elim, fun c fs ρ S1 σ H1 ι1 cls d T R1 E1 xr q => q.elim⟩
theorem def_okX {x qual : Str} {st : Stmt} {f : Addr} {fd : FuncData} {N ps : List Str} {k n : Nat} {G : List (Str × Nat × Spec)} {B : List Str} {L : Kl} {sp : SpecX} {code : WS} (F : Fun K x qual st f fd) (S : FnScope N ps (defScope st))
    (hG : ∀ y m sp, G.lookup y = some (m, sp) → Known P w K mg base k y m sp) (hB : ∀ y ∈ B, mg y = none) (hL : KlOk P w K mg base k L) (tr : trL (ctOf N st G B L) n (defBody st) = some code) (good : GoodX N.length ps.length code sp) :
    FnOk P w K mg base (L2.CX P w) (k + 1) f fd ps (spOfX ⟨K, clOf mg⟩ ps.length sp) := by
  refine F.okX S (fun vs H Q E h => ?_) (fun cdv A outer s H vs Q E hr h => ?_)
  · obtain ⟨ι, S, ds, xx, R, r, _, hl, _⟩ := h
    rw [← r.length]; exact hl
  · obtain ⟨ι, S0, ds, xx, R, r, ex, hl, Q0, E0, q0, q1, q2⟩ := h
    have tk : Takes (cxOf (L2.CX P w) P w K mg base N qual (defScope st) f cdv A outer s H E) (fun cls d _ H => E cls d H) := takes_of rfl rfl rfl rfl
    have O : CtOk (ctOf N st G B L) (cxOf (L2.CX P w) P w K mg base N qual (defScope st) f cdv A outer s H E) :=
      ct_ok rfl rfl rfl rfl rfl rfl S.nd rfl rfl rfl (passes_of rfl) hr hG hB hL
    have B := (sndS n).L _ _ _ _ O tr
    refine ⟨_, B.ps _ tk, kkX Q0 E0, rhoOf N.length ds, ι, S0, ?_, R, ?_, good ds S0 Q0 E0 hl q0⟩
    · have e := RepR.start r (N.length - ds.length)
      unfold rhoOf L2.start
      rw [← r.length]
      exact e
    · exact ⟨fun ρ S1 σ H1 ι1 T R1 E1 q => q1 _ _ q .non H1 ι1 T R1 rfl, fun d S1 v H1 ι1 T R1 rv q => q1 _ _ q v H1 ι1 T R1 rv, fun ρ S1 σ H1 ι1 T R1 E1 q => q.elim, fun ρ S1 σ H1 ι1 T R1 E1 q => q.elim,
        fun c fs ρ S1 σ H1 ι1 cls d T R1 E1 xr q => ex c fs S1 H1 ι1 cls d T R1 xr (q2 c fs S1 q)⟩
theorem known {x qual : Str} {st : Stmt} {f : Addr} {fd : FuncData} {N ps : List Str} {k n : Nat} {G : List (Str × Nat × Spec)} {B : List Str} {L : Kl} {sp : Spec} {code : WS} (F : Fun K x qual st f fd) (S : FnScope N ps (defScope st))
    (hG : ∀ y m sp, G.lookup y = some (m, sp) → Known P w K mg base k y m sp) (hB : ∀ y ∈ B, mg y = none) (hL : KlOk P w K mg base k L) (tr : trL (ctOf N st G B L) n (defBody st) = some code) (good : Good N.length ps.length code sp) (hm : mg x = some (.ref f)) (hb : Binds K fd ps []) :
    Known P w K mg base (k + 1) x ps.length sp := ⟨f, fd, ps, def_ok F S hG hB hL tr good, hm, F.kp, hb⟩
theorem knownX {x qual : Str} {st : Stmt} {f : Addr} {fd : FuncData} {N ps : List Str} {k n : Nat} {G : List (Str × Nat × Spec)} {B : List Str} {L : Kl} {sp : SpecX} {code : WS} (F : Fun K x qual st f fd) (S : FnScope N ps (defScope st))
    (hG : ∀ y m sp, G.lookup y = some (m, sp) → Known P w K mg base k y m sp) (hB : ∀ y ∈ B, mg y = none) (hL : KlOk P w K mg base k L) (tr : trL (ctOf N st G B L) n (defBody st) = some code) (good : GoodX N.length ps.length code sp) (hm : mg x = some (.ref f)) (hb : Binds K fd ps []) :
    KnownX P w K mg base (k + 1) x ps.length sp := ⟨f, fd, ps, def_okX F S hG hB hL tr good, hm, F.kp, hb⟩
theorem knownM {c m qual : Str} {st : Stmt} {f : Addr} {fd : FuncData} {N ps : List Str} {k n a : Nat} {G : List (Str × Nat × Spec)} {B : List Str} {L : Kl} {sp : Spec} {code : WS} (F : Fun K m qual st f fd) (S : FnScope N ps (defScope st))
    (hG : ∀ y m sp, G.lookup y = some (m, sp) → Known P w K mg base k y m sp) (hB : ∀ y ∈ B, mg y = none) (hL : KlOk P w K mg base k L) (tr : trL (ctOf N st G B L) n (defBody st) = some code) (good : Good N.length ps.length code sp) (ha : ps.length = a + 1) (hc : Cls K (clOf mg c)) (hm : Meth K (clOf mg c) m f) (hb : Binds K fd ps []) :
    KnownM P w K mg base (k + 1) c m a sp := ⟨f, fd, ps, by rw [← ha]; exact def_ok F S hG hB hL tr good, hc, hm, hb⟩
theorem knownC {c m qual : Str} {st : Stmt} {C f : Addr} {fd : FuncData} {N ps : List Str} {k n a : Nat} {G : List (Str × Nat × Spec)} {B : List Str} {L : Kl} {sp : Spec} {code : WS} (F : Fun K m qual st f fd) (S : FnScope N ps (defScope st))
    (hG : ∀ y m sp, G.lookup y = some (m, sp) → Known P w K mg base k y m sp) (hB : ∀ y ∈ B, mg y = none) (hL : KlOk P w K mg base k L) (tr : trL (ctOf N st G B L) n (defBody st) = some code) (good : Good N.length ps.length code sp) (ha : ps.length = a + 1) (hm : mg c = some (.ref C)) (hM : Mk K C f) (hb : Binds K fd ps []) :
    KnownC P w K mg base (k + 2) c a sp := ⟨k + 1, C, f, fd, ps, Nat.le_refl _, by rw [← ha]; exact def_ok F S hG hB hL tr good, hm, hM, hb⟩
theorem known_nil {k : Nat} : ∀ (y : Str) (m : Nat) (sp : Spec), ([] : List (Str × Nat × Spec)).lookup y = some (m, sp) → Known P w K mg base k y m sp := fun _ _ _ h => nomatch h
theorem known_cons {k : Nat} {x : Str} {m : Nat} {sp : Spec} {G : List (Str × Nat × Spec)} (h : Known P w K mg base k x m sp) (g : ∀ (y : Str) (m : Nat) (sp : Spec), G.lookup y = some (m, sp) → Known P w K mg base k y m sp) :
    ∀ (y : Str) (m' : Nat) (sp' : Spec), ((x, m, sp) :: G).lookup y = some (m', sp') → Known P w K mg base k y m' sp' := fun y m' sp' e => by
  rw [List.lookup_cons] at e
  split at e
  · rename_i hy
    have := eq_of_beq hy
    subst this
    cases e
    exact h
  · exact g y m' sp' e
/-- a def that is never called: its promise cannot be asked -/
def sp_no : Spec := fun _ _ _ => False
theorem known_no {x qual : Str} {st : Stmt} {f : Addr} {fd : FuncData} {ps : List Str} {k m : Nat} (F : Fun K x qual st f fd) (hm : mg x = some (.ref f)) (hb : Binds K fd ps []) : Known P w K mg base k x m sp_no :=
  ⟨f, fd, ps, ⟨fun vs H Q E ⟨_, _, _, _, _, _, _, z, _⟩ => z.elim, fun _ _ _ _ _ _ _ _ _ _ _ _ _ ⟨_, _, _, _, _, _, _, z, _⟩ => z.elim⟩, hm, F.kp, hb⟩
end
end WW


set_option autoImplicit false
set_option linter.all false
namespace WW
/-! ### numbers by their bits -/
/-- the number below 2^n whose bits are p -/
def mk : Nat → (Nat → Bool) → Nat
  | 0, _ => 0
  | n + 1, p => mk n p + if p n = true then 2 ^ n else 0
theorem mk_lt (n : Nat) (p : Nat → Bool) : mk n p < 2 ^ n := by
  induction n with
  | zero => simp [mk]
  | succ n ih =>
    unfold mk
    rw [Nat.pow_succ]
    split <;> omega
theorem mk_bit (n : Nat) (p : Nat → Bool) (i : Nat) : (mk n p).testBit i = (decide (i < n) && p i) := by
  induction n with
  | zero => simp [mk]
  | succ n ih =>
    unfold mk
    by_cases hp : p n = true
    · rw [if_pos hp, Nat.add_comm]
      by_cases h : i < n
      · rw [Nat.testBit_two_pow_add_gt h, ih]
        simp [h, Nat.lt_succ_of_lt h]
      · by_cases h2 : i = n
        · subst h2
          rw [Nat.testBit_two_pow_add_eq, Nat.testBit_lt_two_pow (mk_lt i p)]
          simp [hp]
        · rw [Nat.testBit_lt_two_pow]
          · simp [show ¬ i < n + 1 by omega]
          · have h1 := mk_lt n p
            have h3 : 2 ^ (n + 1) ≤ 2 ^ i := Nat.pow_le_pow_right (by decide) (by omega)
            rw [Nat.pow_succ] at h3
            omega
    · rw [if_neg hp, Nat.add_zero, ih]
      by_cases h2 : i = n
      · subst h2
        simp [hp]
      · congr 1
        rw [decide_eq_decide]
        omega
theorem bit_ext {x y : Nat} (h : ∀ i, x.testBit i = y.testBit i) : x = y := Nat.eq_of_testBit_eq h
theorem mk_self {n L : Nat} (h : L < 2 ^ n) : mk n L.testBit = L := bit_ext fun i => by
  rw [mk_bit]
  by_cases hi : i < n
  · simp [hi]
  · rw [Nat.testBit_lt_two_pow (Nat.lt_of_lt_of_le h (Nat.pow_le_pow_right (by decide) (by omega)))]
    simp
theorem mk_congr {n : Nat} {p q : Nat → Bool} (h : ∀ i, i < n → p i = q i) : mk n p = mk n q := bit_ext fun i => by
  rw [mk_bit, mk_bit]
  by_cases hi : i < n
  · rw [h i hi]
  · simp [hi]
theorem mk_all (n : Nat) : mk n (fun _ => true) = 2 ^ n - 1 := bit_ext fun i => by
  rw [mk_bit, Nat.testBit_two_pow_sub_one]
  simp
/-- sums of numbers without a common bit -/
theorem add_or : ∀ (n a b : Nat), a < 2 ^ n → (∀ i, (a.testBit i && b.testBit i) = false) → a + b = a ||| b := by
  intro n
  induction n with
  | zero =>
    intro a b h _
    have : a = 0 := by omega
    subst this
    simp
  | succ n ih =>
    intro a b h hd
    have h1 : a / 2 + b / 2 = a / 2 ||| b / 2 := ih (a / 2) (b / 2) (by rw [Nat.pow_succ] at h; omega) (fun i => by
      have := hd (i + 1)
      rw [Nat.testBit_succ, Nat.testBit_succ] at this
      exact this)
    have h0 := hd 0
    simp only [Nat.testBit_zero] at h0
    apply bit_ext
    intro i
    rw [Nat.testBit_or]
    cases i with
    | zero =>
      simp only [Nat.testBit_zero]
      have e : (a + b) % 2 = (a % 2 + b % 2) % 2 := Nat.add_mod a b 2
      rcases Nat.mod_two_eq_zero_or_one a with ha | ha <;> rcases Nat.mod_two_eq_zero_or_one b with hb | hb <;> simp [e, ha, hb] at h0 ⊢
    | succ i =>
      rw [Nat.testBit_succ, Nat.testBit_succ, Nat.testBit_succ]
      have e : (a + b) / 2 = a / 2 + b / 2 := by
        rcases Nat.mod_two_eq_zero_or_one a with ha | ha <;> rcases Nat.mod_two_eq_zero_or_one b with hb | hb <;> simp [ha, hb] at h0 <;> omega
      rw [e, h1, Nat.testBit_or]
theorem add_or' {a b : Nat} (h : ∀ i, (a.testBit i && b.testBit i) = false) : a + b = a ||| b := add_or a a b (Nat.lt_two_pow_self) h
theorem bit_add {a b : Nat} (h : ∀ i, (a.testBit i && b.testBit i) = false) (i : Nat) : (a + b).testBit i = (a.testBit i || b.testBit i) := by
  rw [add_or' h, Nat.testBit_or]
/-- a part taken away -/
theorem bit_sub {a b : Nat} (h : ∀ i, b.testBit i = true → a.testBit i = true) : b ≤ a ∧ ∀ i, (a - b).testBit i = (a.testBit i && !b.testBit i) := by
  have hc : b + (a ^^^ b) = a := by
    rw [add_or' (fun i => by
      rw [Nat.testBit_xor]
      cases hb : b.testBit i with
      | false => rfl
      | true => rw [h i hb]; rfl)]
    apply bit_ext
    intro i
    rw [Nat.testBit_or, Nat.testBit_xor]
    cases hb : b.testBit i with
    | false => simp
    | true => rw [h i hb]; rfl
  refine ⟨by omega, fun i => ?_⟩
  have e : a - b = a ^^^ b := by omega
  rw [e, Nat.testBit_xor]
  cases hb : b.testBit i with
  | false => simp
  | true => rw [h i hb]; rfl
theorem bit_two_pow (h i : Nat) : (2 ^ h).testBit i = decide (h = i) := Nat.testBit_two_pow
/-- h with its bit b set or not -/
theorem bit_low {b h : Nat} (hb : h.testBit b = true) : 2 ^ b ≤ h := Nat.ge_two_pow_of_testBit hb
theorem bit_take {b h : Nat} (hb : h.testBit b = true) : ∀ i, (h - 2 ^ b).testBit i = (h.testBit i && !decide (b = i)) := fun i => by
  rw [(bit_sub (a := h) (b := 2 ^ b) fun i e => by
    rw [bit_two_pow] at e
    rw [← of_decide_eq_true e]; exact hb).2, bit_two_pow]
theorem bit_give {b h : Nat} (hb : h.testBit b = false) : ∀ i, (h + 2 ^ b).testBit i = (h.testBit i || decide (b = i)) := fun i => by
  rw [bit_add (fun j => by
    rw [bit_two_pow]
    by_cases e : b = j
    · subst e; rw [hb]; rfl
    · simp [e]), bit_two_pow]
theorem lt_of_bits {n h : Nat} (e : ∀ i, n ≤ i → h.testBit i = false) : h < 2 ^ n := Nat.lt_pow_two_of_testBit h e
theorem bit_lt {n h i : Nat} (hl : h < 2 ^ n) (hi : n ≤ i) : h.testBit i = false := Nat.testBit_lt_two_pow (Nat.lt_of_lt_of_le hl (Nat.pow_le_pow_right (by decide) hi))
/-! ### lots -/
def allN (w : Nat) : Nat := 2 ^ 2 ^ w - 1
/-- the headers of width w whose bit b is 0 -/
def zerosN (b w : Nat) : Nat := mk (2 ^ w) fun h => !h.testBit b
theorem zeros_bit (b w h : Nat) : (zerosN b w).testBit h = (decide (h < 2 ^ w) && !h.testBit b) := mk_bit ..
theorem zeros_mul {b w : Nat} (hb : b < w) : (2 ^ 2 ^ b + 1) * zerosN b w = allN w := by
  have e : (2 ^ 2 ^ b + 1) * zerosN b w = zerosN b w + zerosN b w * 2 ^ 2 ^ b := by
    rw [Nat.add_mul, Nat.one_mul, Nat.add_comm, Nat.mul_comm]
  rw [e]
  have hd : ∀ i, ((zerosN b w).testBit i && (zerosN b w * 2 ^ 2 ^ b).testBit i) = false := fun i => by
    rw [Nat.testBit_mul_two_pow, zeros_bit, zeros_bit]
    by_cases h1 : 2 ^ b ≤ i
    · by_cases h2 : (i - 2 ^ b).testBit b = true
      · simp [h2]
      · have h2 : (i - 2 ^ b).testBit b = false := by simpa using h2
        have h3 := bit_give h2 b
        rw [show i - 2 ^ b + 2 ^ b = i by omega] at h3
        simp [h3]
    · simp [h1]
  apply bit_ext
  intro i
  rw [bit_add hd, Nat.testBit_mul_two_pow, zeros_bit, zeros_bit]
  unfold allN
  rw [Nat.testBit_two_pow_sub_one]
  by_cases hi : i < 2 ^ w
  · cases hbit : i.testBit b with
    | false => simp [hi]
    | true =>
      have h1 := bit_low hbit
      have h2 := bit_take hbit b
      have h3 : i - 2 ^ b < 2 ^ w := by
        have := Nat.two_pow_pos b
        omega
      simp [hi, h1, h2, h3]
  · have : ¬ i < 2 ^ w := hi
    by_cases h1 : 2 ^ b ≤ i
    · by_cases h2 : i - 2 ^ b < 2 ^ w
      · cases h3 : (i - 2 ^ b).testBit b with
        | true => simp [hi]
        | false =>
          exfalso
          apply hi
          have h4 := bit_give h3
          rw [show i - 2 ^ b + 2 ^ b = i by omega] at h4
          apply lt_of_bits
          intro j hj
          rw [h4, bit_lt h2 hj]
          simp
          omega
      · simp [hi, h2]
    · simp [hi, h1]
theorem zeros_div {b w : Nat} (hb : b < w) : allN w / (2 ^ 2 ^ b + 1) = zerosN b w := by
  rw [← zeros_mul hb]
  exact Nat.mul_div_cancel_left _ (Nat.succ_pos _)
theorem all_bit (w h : Nat) : (allN w).testBit h = decide (h < 2 ^ w) := Nat.testBit_two_pow_sub_one ..
/-- the headers that fit the cube, by bits below k -/
def fitB (c v k h : Nat) : Bool := (List.range k).all fun b => !c.testBit b || (h.testBit b == v.testBit b)
theorem fitB_succ (c v k h : Nat) : fitB c v (k + 1) h = (fitB c v k h && (!c.testBit k || (h.testBit k == v.testBit k))) := by
  unfold fitB
  rw [List.range_succ, List.all_append]
  simp
theorem fitB_iff {c v k h : Nat} : fitB c v k h = true ↔ ∀ b, b < k → c.testBit b = true → h.testBit b = v.testBit b := by
  unfold fitB
  rw [List.all_eq_true]
  constructor
  · intro q b hb hc
    have := q b (List.mem_range.mpr hb)
    rw [hc] at this
    simpa using this
  · intro q b hb
    cases hc : c.testBit b with
    | false => rfl
    | true =>
      have := q b (List.mem_range.mp hb) hc
      rw [this]
      simp
def lotK (c v w k : Nat) : Nat := mk (2 ^ w) (fitB c v k)
theorem lotK_bit (c v w k h : Nat) : (lotK c v w k).testBit h = (decide (h < 2 ^ w) && fitB c v k h) := mk_bit ..
theorem lotK_zero (c v w : Nat) : lotK c v w 0 = allN w := bit_ext fun i => by
  rw [lotK_bit, all_bit]
  simp [fitB]
/-- one turn of lot_of -/
theorem lotK_low {c v w k : Nat} (h : Nat) : (lotK c v w k &&& zerosN k w).testBit h = (decide (h < 2 ^ w) && fitB c v k h && !h.testBit k) := by
  rw [Nat.testBit_and, lotK_bit, zeros_bit]
  cases decide (h < 2 ^ w) <;> simp
theorem lotK_turn0 {c v w k : Nat} (hc : c.testBit k = true) (hv : v.testBit k = false) : lotK c v w k &&& zerosN k w = lotK c v w (k + 1) := bit_ext fun h => by
  rw [lotK_low, lotK_bit, fitB_succ, hc, hv]
  cases decide (h < 2 ^ w) <;> simp
theorem lotK_turn1 {c v w k : Nat} (hc : c.testBit k = true) (hv : v.testBit k = true) : (lotK c v w k &&& zerosN k w) ≤ lotK c v w k ∧ lotK c v w k - (lotK c v w k &&& zerosN k w) = lotK c v w (k + 1) := by
  have hs : ∀ i, (lotK c v w k &&& zerosN k w).testBit i = true → (lotK c v w k).testBit i = true := fun i e => by
    rw [Nat.testBit_and] at e
    exact (Bool.and_eq_true_iff.mp e).1
  obtain ⟨h1, h2⟩ := bit_sub hs
  refine ⟨h1, bit_ext fun h => ?_⟩
  rw [h2, lotK_low, lotK_bit, lotK_bit, fitB_succ, hc, hv]
  cases decide (h < 2 ^ w) <;> cases fitB c v k h <;> simp
theorem lotK_turn {c v w k : Nat} (hc : c.testBit k = false) : lotK c v w k = lotK c v w (k + 1) := bit_ext fun h => by
  rw [lotK_bit, lotK_bit, fitB_succ, hc]
  simp
/-- the lot of a cube -/
def lotN (c v w : Nat) : Nat := lotK c v w w
theorem fitB_and {c v w h : Nat} (hc : c < 2 ^ w) (hv : v &&& c = v) : fitB c v w h = decide (h &&& c = v) := by
  rw [Bool.eq_iff_iff, fitB_iff, decide_eq_true_iff]
  constructor
  · intro q
    apply bit_ext
    intro i
    rw [Nat.testBit_and]
    have e : v.testBit i = (v.testBit i && c.testBit i) := by rw [← Nat.testBit_and, hv]
    cases hi : c.testBit i with
    | false => rw [hi, Bool.and_false] at e; rw [e]; simp
    | true =>
      have : i < w := by
        apply Nat.lt_of_not_le
        intro z
        rw [bit_lt hc z] at hi
        cases hi
      simp [q i this hi]
  · intro q b _ hb
    rw [← q, Nat.testBit_and, hb]
    simp
theorem lot_bit {c v w : Nat} (hc : c < 2 ^ w) (hv : v &&& c = v) (h : Nat) : (lotN c v w).testBit h = (decide (h < 2 ^ w) && decide (h &&& c = v)) := by
  unfold lotN
  rw [lotK_bit, fitB_and hc hv]
theorem lot_lt (c v w : Nat) : lotN c v w < 2 ^ 2 ^ w := mk_lt ..
/-! ### the headers of a lot, ascending -/
def hdrs (n L : Nat) : List Nat := (List.range n).filter L.testBit
theorem hdrs_succ (n L : Nat) : hdrs (n + 1) L = hdrs n L ++ if L.testBit n = true then [n] else [] := by
  unfold hdrs
  rw [List.range_succ, List.filter_append]
  congr 1
  by_cases h : L.testBit n = true
  · simp [h]
  · simp [h]
theorem hdrs_mem {n L h : Nat} : h ∈ hdrs n L ↔ h < n ∧ L.testBit h = true := by
  unfold hdrs
  rw [List.mem_filter, List.mem_range]
theorem hdrs_asc (n L : Nat) : (hdrs n L).Pairwise (· < ·) := by
  unfold hdrs
  exact List.Pairwise.filter _ (List.pairwise_lt_range)
/-- ascending lists with the same members are one -/
theorem asc_ext : ∀ {a b : List Nat}, a.Pairwise (· < ·) → b.Pairwise (· < ·) → (∀ x, x ∈ a ↔ x ∈ b) → a = b
  | [], [], _, _, _ => rfl
  | [], y :: b, _, _, h => by have := (h y).mpr List.mem_cons_self; cases this
  | x :: a, [], _, _, h => by have := (h x).mp List.mem_cons_self; cases this
  | x :: a, y :: b, ha, hb, h => by
    rw [List.pairwise_cons] at ha hb
    have e : x = y := by
      have h1 := (h x).mp List.mem_cons_self
      have h2 := (h y).mpr List.mem_cons_self
      rcases List.mem_cons.mp h1 with q | q
      · exact q
      · rcases List.mem_cons.mp h2 with r | r
        · exact r.symm
        · have := hb.1 x q
          have := ha.1 y r
          omega
    subst e
    congr 1
    apply asc_ext ha.2 hb.2
    intro z
    constructor
    · intro hz
      rcases List.mem_cons.mp ((h z).mp (List.mem_cons_of_mem _ hz)) with q | q
      · subst q
        exact absurd (ha.1 z hz) (Nat.lt_irrefl _)
      · exact q
    · intro hz
      rcases List.mem_cons.mp ((h z).mpr (List.mem_cons_of_mem _ hz)) with q | q
      · subst q
        exact absurd (hb.1 z hz) (Nat.lt_irrefl _)
      · exact q
/-- the lot of a list of headers -/
def ofL : List Nat → Nat
  | [] => 0
  | h :: r => 2 ^ h ||| ofL r
theorem ofL_bit : ∀ (hs : List Nat) (i : Nat), (ofL hs).testBit i = decide (i ∈ hs)
  | [], i => by simp [ofL]
  | h :: r, i => by
    unfold ofL
    rw [Nat.testBit_or, ofL_bit r, bit_two_pow]
    by_cases e : h = i
    · simp [e]
    · have e' : ¬ i = h := fun z => e z.symm
      simp [e, e']
theorem ofL_lt {hs : List Nat} {n : Nat} (h : ∀ x ∈ hs, x < n) : ofL hs < 2 ^ n := lt_of_bits fun i hi => by
  rw [ofL_bit]
  apply decide_eq_false
  intro z
  have := h i z
  omega
theorem hdrs_ofL {hs : List Nat} {n : Nat} (ha : hs.Pairwise (· < ·)) (h : ∀ x ∈ hs, x < n) : hdrs n (ofL hs) = hs := asc_ext (hdrs_asc _ _) ha fun x => by
  rw [hdrs_mem, ofL_bit, decide_eq_true_iff]
  exact ⟨fun q => q.2, fun q => ⟨h x q, q⟩⟩
theorem hdrs_zero (n : Nat) : hdrs n 0 = [] := by
  unfold hdrs
  apply List.filter_eq_nil_iff.mpr
  intro a _
  simp
theorem hdrs_len_le (n L : Nat) : (hdrs n L).length ≤ n := by
  unfold hdrs
  have := List.length_filter_le L.testBit (List.range n)
  rw [List.length_range] at this
  exact this
/-- the lowest bit -/
theorem and_pred : ∀ (n r : Nat), r < 2 ^ n → 0 < r → ∃ k, k < n ∧ r.testBit k = true ∧ (∀ j, j < k → r.testBit j = false) ∧ r &&& (r - 1) = r - 2 ^ k := by
  intro n
  induction n with
  | zero => intro r h h0; simp at h; omega
  | succ n ih =>
    intro r h h0
    rcases Nat.mod_two_eq_zero_or_one r with e | e
    · have e2 : r = 2 * (r / 2) := by omega
      obtain ⟨k, k1, k2, k3, k4⟩ := ih (r / 2) (by rw [Nat.pow_succ] at h; omega) (by omega)
      refine ⟨k + 1, by omega, by rw [Nat.testBit_succ]; exact k2, ?_, ?_⟩
      · intro j hj
        cases j with
        | zero => simp [Nat.testBit_zero, e]
        | succ j => rw [Nat.testBit_succ]; exact k3 j (by omega)
      · have hk : 2 ^ k ≤ r / 2 := bit_low k2
        have hp : 2 ^ (k + 1) = 2 * 2 ^ k := by rw [Nat.pow_succ, Nat.mul_comm]
        have h1 : (r &&& (r - 1)) / 2 = (r / 2 &&& (r / 2 - 1)) := by
          rw [show r / 2 - 1 = (r - 1) / 2 by omega]
          apply bit_ext
          intro i
          rw [Nat.testBit_and, ← Nat.testBit_succ, ← Nat.testBit_succ, ← Nat.testBit_succ, Nat.testBit_and]
        have h2 : (r &&& (r - 1)) % 2 = 0 := by
          have : (r &&& (r - 1)).testBit 0 = false := by
            rw [Nat.testBit_and, Nat.testBit_zero, e]
            rfl
          rw [Nat.testBit_zero] at this
          generalize r &&& (r - 1) = X at this ⊢
          simp at this
          omega
        rw [k4] at h1
        generalize r &&& (r - 1) = X at h1 h2 ⊢
        omega
    · refine ⟨0, by omega, by simp [Nat.testBit_zero, e], fun j hj => absurd hj (by omega), ?_⟩
      have h1 : (r &&& (r - 1)) / 2 = r / 2 := by
        apply bit_ext
        intro i
        rw [← Nat.testBit_succ, Nat.testBit_and, Nat.testBit_succ, Nat.testBit_succ, show (r - 1) / 2 = r / 2 by omega]
        simp
      have h2 : (r &&& (r - 1)) % 2 = 0 := by
        have : (r &&& (r - 1)).testBit 0 = false := by
          rw [Nat.testBit_and, Nat.testBit_zero, Nat.testBit_zero]
          simp
          omega
        rw [Nat.testBit_zero] at this
        generalize r &&& (r - 1) = X at this ⊢
        simp at this
        omega
      rw [Nat.pow_zero]
      generalize r &&& (r - 1) = X at h1 h2 ⊢
      omega
end WW


set_option Elab.async false
set_option linter.all false
set_option maxRecDepth 100000
set_option maxHeartbeats 4000000
set_option autoImplicit false
namespace WW
open PySem PySem.Spec PyProof.Rows L2

/-! ### the clean readings, applied -/
section
variable {ρ : Rho} {e : Env} {S : Sto} {Q : Q1} {k : KK} {i : Nat} {d : D} {o p : OpD} {a b c : W} {t u : WT} {x y z : WS} {wa wr : WA} {QT : Bool → Sto → Prop} {QA : List D → Sto → Prop} {QO : Option Int → Sto → Prop}
theorem en_2 : (KK.en k ρ).2 = ρ := rfl
theorem ap_var : wVar i e S Q = gv (look e.2 i) (fun d => Q d S) := rfl
theorem ap_cst : wCst d e S Q = Q d S := rfl
theorem ap_op : wOp o a b e S Q = a e S fun x S1 => b e S1 fun y S2 => o x y S2 Q := rfl
theorem ap_neg : wNeg a e S Q = a e S fun x S1 => isInt x fun i => Q (.int (-i)) S1 := rfl
theorem ap_notV : wNotV a e S Q = a e S fun x S1 => truD x S1 fun k => Q (.bl (!k)) S1 := rfl
theorem ap_andV : wAndV a b e S Q = a e S fun x S1 => truD x S1 fun k => if k = true then b e S1 Q else Q x S1 := rfl
theorem ap_orV : wOrV a b e S Q = a e S fun x S1 => truD x S1 fun k => if k = true then Q x S1 else b e S1 Q := rfl
theorem ap_chain : wChain o p a b c e S Q = a e S fun x S1 => b e S1 fun y S2 => o x y S2 fun z S3 => isBl z fun k => if k = true then c e S3 fun u S4 => p y u S4 Q else Q (.bl false) S3 := rfl
theorem ap_if : wIf t a b e S Q = t e S fun k S1 => if k = true then a e S1 Q else b e S1 Q := rfl
theorem ap_nil : wNil e S QA = QA [] S := rfl
theorem ap_cons : wCons a wr e S QA = a e S fun x S1 => wr e S1 fun xs S2 => QA (x :: xs) S2 := rfl
theorem ap_tup : wTup wa e S Q = wa e S fun xs S1 => xs.length ≤ sizeLine ∧ Q (.tup xs) S1 := rfl
theorem ap_lst : wLst wa e S Q = wa e S fun xs S1 => xs.length ≤ sizeLine ∧ Q (.ref S1.length) (S1 ++ [.lst xs]) := rfl
theorem ap_noP : wNoP e S QO = QO none S := rfl
theorem ap_part : wPart a e S QO = a e S fun x S1 => isInt x fun i => QO (some i) S1 := rfl
theorem ap_slc {lo hi : WO} : wSlc a lo hi e S Q = a e S fun x S1 => lo e S1 fun l S2 => hi e S2 fun h S3 => slcD x l h S3 Q := rfl
theorem ap_call {n : Nat} {sp : Spec} : wCall n sp wa e S Q = wa e S fun ds S1 => callS n sp ds S1 Q := rfl
theorem ap_callX {n : Nat} {sp : SpecX} : wCallX n sp wa e S Q = wa e S fun ds S1 => callX n sp ds S1 Q e.1 := rfl
theorem ap_blt {f : CalD} : wBlt f wa e S Q = wa e S fun ds S1 => f ds S1 Q := rfl
theorem ap_met {ty : D → Sto → Prop} {m : MetD} : wMet ty m a wa e S Q = a e S fun x S1 => ty x S1 ∧ wa e S1 fun ds S2 => m x ds S2 Q := rfl
theorem ap_bits : wBits a e S Q = a e S fun x S1 => isInt x fun i => Q (.int (Builtin.Int.intBits i : Nat)) S1 := rfl
theorem ap_tst : wTst a e S QT = a e S fun d S1 => truD d S1 fun b => QT b S1 := rfl
theorem ap_tsB : wTsB a e S QT = a e S fun d S1 => isBl d fun b => QT b S1 := rfl
theorem ap_notB : wNotB t e S QT = t e S fun b S1 => QT (!b) S1 := rfl
theorem ap_andB : wAndB t u e S QT = t e S fun b S1 => if b = true then u e S1 QT else QT false S1 := rfl
theorem ap_orB : wOrB t u e S QT = t e S fun b S1 => if b = true then QT true S1 else u e S1 QT := rfl
theorem ap_yes : wYes e S QT = QT true S := rfl
theorem ap_sset : wSSet a e S Q = a e S fun d S1 => ssetD d S1 Q := rfl
theorem ap_isi {T : Ty} : wIsi T a e S Q = a e S fun d S1 => tyD d S1 fun t => Q (.bl (isiB t T)) S1 := rfl
theorem ap_or : wOr a b e S Q = (a e S Q ∨ b e S Q) := rfl
theorem ap_lstR : wLstR wa e S Q = wa e S fun ds S1 => rg2 ds fun i j => RgOk i j ∧ Q (.ref S1.length) (S1 ++ [.lst (rgD i j)]) := rfl
theorem ap_tupR : wTupR wa e S Q = wa e S fun ds S1 => rg2 ds fun i j => RgOk i j ∧ Q (.tup (rgD i j)) S1 := rfl
theorem ap_dct : wDct e S Q = (Q (.ref S.length) (S ++ [.dK false []]) ∨ Q (.ref S.length) (S ++ [.dT false []])) := rfl
theorem ap_fld {cs : List Str} {f : Str} : wFld cs f a e S Q = a e S fun d S1 => fldD cs f d S1 Q := rfl
theorem ap_mth {c m : Str} {n : Nat} {sp : Spec} : wMth c m n sp a wa e S Q = a e S fun x S1 => mthD c m x S1 ∧ wa e S1 fun ds S2 => callS (n + 1) sp (x :: ds) S2 Q := rfl
theorem ap_mak {c : Str} {n : Nat} {sp : Spec} : wMak c n sp wa e S Q = wa e S fun ds S1 => callS (n + 1) sp (.ref S1.length :: ds) (S1 ++ [.ins c []]) fun d S2 => d = .non ∧ Q (.ref S1.length) S2 := rfl
theorem ap_lc {wi : WI} {pt : Pat} {vs : List Nat} : wLc wi pt t a vs e S Q = wi e S fun s S1 => lcGo s.stab pt t a (wipeR e.2 vs) Q s.items [] S1 := rfl
theorem ap_asg : wAsg i a k ρ S = a (k.en ρ) S fun d S1 => k.nx (putR ρ i (some d)) S1 := rfl
theorem ap_asgP {pt : Pat} : wAsgP pt a k ρ S = a (k.en ρ) S fun d S1 => gv (bindQ pt d S1 ρ) fun ρ' => k.nx ρ' S1 := rfl
theorem ap_set : wSet a b c k ρ S = c (k.en ρ) S fun y S1 => a (k.en ρ) S1 fun x S2 => b (k.en ρ) S2 fun z S3 => setD x z y S3 fun S4 => k.nx ρ S4 := rfl
theorem ap_fset {cs : List Str} {f : Str} : wFSet cs f a b k ρ S = b (k.en ρ) S fun y S1 => a (k.en ρ) S1 fun x S2 => fsetD cs f y x S2 fun S3 => k.nx ρ S3 := rfl
theorem ap_drop : wDrop a k ρ S = a (k.en ρ) S fun _ S1 => k.nx ρ S1 := rfl
theorem ap_ret : wRet a k ρ S = a (k.en ρ) S k.rt := rfl
theorem ap_retN : wRetN k ρ S = k.rt .non S := rfl
theorem ap_brk : wBrk k ρ S = k.bk ρ S := rfl
theorem ap_cnt : wCnt k ρ S = k.ct ρ S := rfl
theorem ap_pas : wPas k ρ S = k.nx ρ S := rfl
theorem ap_sq : wSq x y k ρ S = x { k with nx := y k } ρ S := rfl
theorem ap_ifS : wIfS t x y k ρ S = t (k.en ρ) S fun c S1 => if c = true then x k ρ S1 else y k ρ S1 := rfl
theorem ap_for {wi : WI} {pt : Pat} : wFor wi pt x k ρ S = wi (k.en ρ) S fun s S1 => forGo s.stab pt x k s.items ρ S1 := rfl
theorem ap_forN {pt : Pat} : wForN i pt x k ρ S = gv (look ρ i) fun d => (srcD d S fun s => forGo s.stab pt x k s.items ρ S) ∨ forD pt x k ρ d S := rfl
theorem ap_seqI {QI : Src → Sto → Prop} : wSeqI a e S QI = a e S fun d S1 => srcD d S1 fun s => QI s S1 := rfl
theorem ap_rng {QI : Src → Sto → Prop} : wRng wa e S QI = wa e S fun ds S1 => rngD ds fun s => QI s S1 := rfl
theorem ap_enum {QI : Src → Sto → Prop} : wEnum wa e S QI = wa e S fun ds S1 => enum1 ds S1 fun s => QI s S1 := rfl
end
section
variable {Q : Int → Prop} {QB : Bool → Prop} {i : Int} {b : Bool} {A B : Prop} {n : Nat} {d : D} {ds : List D} {ρ : Rho} {is : List Nat} {S : Sto}
theorem rd_int : isInt (.int i) Q = Q i := rfl
theorem rd_bl : isBl (.bl b) QB = QB b := rfl
theorem rd_T : (if true = true then A else B) = A := rfl
theorem rd_F : (if false = true then A else B) = B := rfl
theorem rd_nm : bindP (.nm n) d ρ = some (putR ρ n (some d)) := rfl
theorem rd_tp : bindP (.tp is) (.tup ds) ρ = bindL is ds ρ := rfl
theorem rd_nil : bindL [] [] ρ = some ρ := rfl
theorem rd_cons : bindL (n :: is) (d :: ds) ρ = bindL is ds (putR ρ n (some d)) := rfl
theorem rd_gv {α : Type} {a : α} {Q : α → Prop} : gv (some a) Q = Q a := rfl
theorem rd_trB : truD (.bl b) S QB = QB b := rfl
theorem rd_srcT {QS : Src → Prop} : srcD (.tup ds) S QS = QS ⟨ds, fun _ => True⟩ := rfl
theorem rd_rng1 {QS : Src → Prop} {j : Int} : rngD [.int j] QS = ((-(2 ^ 62) ≤ j ∧ j < 2 ^ 62) ∧ QS ⟨(List.range j.toNat).map fun k => .int ((0 : Int) + (k : Nat)), fun _ => True⟩) := rfl
theorem rd_rng2 {QS : Src → Prop} {i j : Int} : rngD [.int i, .int j] QS = ((-(2 ^ 62) ≤ i ∧ i < 2 ^ 62 ∧ -(2 ^ 62) ≤ j ∧ j < 2 ^ 62) ∧ QS ⟨(List.range (j - i).toNat).map fun k => .int (i + (k : Nat)), fun _ => True⟩) := rfl
theorem rd_notT : (!true) = false := rfl
theorem rd_notF : (!false) = true := rfl
theorem ty_non {QY : Ty → Prop} : tyD .non S QY = QY .non := rfl
theorem ty_bl {QY : Ty → Prop} : tyD (.bl b) S QY = QY .bl := rfl
theorem ty_int {QY : Ty → Prop} : tyD (.int i) S QY = QY .int := rfl
theorem ty_str {QY : Ty → Prop} {z : Str} : tyD (.str z) S QY = QY .str := rfl
theorem ty_tup {QY : Ty → Prop} : tyD (.tup ds) S QY = QY .tup := rfl
theorem rd_rg1 {QR : Int → Int → Prop} {n : Int} : rg2 [.int n] QR = QR 0 n := rfl
theorem rd_rg2 {QR : Int → Int → Prop} {a b : Int} : rg2 [.int a, .int b] QR = QR a b := rfl
end
theorem callI {n : Nat} {sp : Spec} {ds : List D} {S : Sto} {Q : Q1} (hl : ds.length = n) (h : sp ds S Q) : callS n sp ds S Q := ⟨hl, Q, h, fun _ _ h => h⟩

/-! ### loops -/
theorem whl {t : WT} {b : WS} {k : KK} {ρ : Rho} {S : Sto} (I : Nat → Rho → Sto → Prop) {n : Nat} (h0 : I n ρ S)
    (hs : ∀ n ρ S (N : Rho → Sto → Prop), I n ρ S → (∀ n' ρ' S', n' < n → I n' ρ' S' → N ρ' S') → t (k.en ρ) S fun c S1 => if c = true then b { k with nx := N, ct := N, bk := k.nx } ρ S1 else k.nx ρ S1) : wWhl t b k ρ S := by
  have key : ∀ m n ρ S, n < m → I n ρ S → wIt t b k m ρ S := by
    intro m
    induction m with
    | zero => intro n ρ S h; omega
    | succ m ih =>
      intro n ρ S h hI
      exact hs n ρ S (wIt t b k m) hI fun n' ρ' S' h' hI' => ih n' ρ' S' (by omega) hI'
  exact ⟨n + 1, key (n + 1) n ρ S (by omega) h0⟩
theorem forI {st : Sto → Prop} {p : Pat} {b : WS} {k : KK} {xs : List D} {ρ : Rho} {S : Sto} (I : Nat → Rho → Sto → Prop) (h0 : I 0 ρ S)
    (hs : ∀ i d ρ S (N : Rho → Sto → Prop), xs[i]? = some d → I i ρ S → (∀ ρ' S', I (i + 1) ρ' S' → N ρ' S') → st S ∧ gv (bindP p d ρ) fun ρ' => b { k with nx := N, ct := N, bk := k.nx } ρ' S)
    (he : ∀ ρ S, I xs.length ρ S → st S ∧ k.nx ρ S) : forGo st p b k xs ρ S := by
  have key : ∀ (ys : List D) i ρ S, xs.drop i = ys → i ≤ xs.length → I i ρ S → forGo st p b k ys ρ S := by
    intro ys
    induction ys with
    | nil =>
      intro i ρ S h hi hI
      have : xs.length ≤ i := List.drop_eq_nil_iff.mp h
      have e : i = xs.length := by omega
      subst e
      exact he ρ S hI
    | cons y ys ih =>
      intro i ρ S h hi hI
      have hl : i < xs.length := by
        apply Nat.lt_of_not_le
        intro z
        rw [List.drop_of_length_le z] at h
        cases h
      rw [List.drop_eq_getElem_cons hl] at h
      injection h with h1 h2
      exact hs i y ρ S _ (by rw [List.getElem?_eq_getElem hl, h1]) hI fun ρ' S' hI' => ih (i + 1) ρ' S' h2 hl hI'
  exact key xs 0 ρ S rfl (Nat.zero_le _) h0
theorem rng_get {n i : Nat} {lo : Int} {d : D} (h : ((List.range n).map fun k => D.int (lo + (k : Nat)))[i]? = some d) : i < n ∧ d = .int (lo + (i : Nat)) := by
  rw [List.getElem?_map] at h
  cases q : (List.range n)[i]? with
  | none => rw [q] at h; cases h
  | some k =>
    obtain ⟨h1, h2⟩ := List.getElem?_eq_some_iff.mp q
    rw [List.getElem_range] at h2
    subst h2
    rw [q] at h
    cases h
    exact ⟨by simpa using h1, rfl⟩
theorem forR {p : Pat} {b : WS} {k : KK} {n : Nat} {lo : Int} {ρ : Rho} {S : Sto} (I : Nat → Rho → Sto → Prop) (h0 : I 0 ρ S)
    (hs : ∀ i ρ S (N : Rho → Sto → Prop), i < n → I i ρ S → (∀ ρ' S', I (i + 1) ρ' S' → N ρ' S') → gv (bindP p (.int (lo + (i : Nat))) ρ) fun ρ' => b { k with nx := N, ct := N, bk := k.nx } ρ' S)
    (he : ∀ ρ S, I n ρ S → k.nx ρ S) : forGo (fun _ => True) p b k ((List.range n).map fun k => .int (lo + (k : Nat))) ρ S :=
  forI I h0 (fun i d ρ S N hd hI hN => by
    obtain ⟨h1, rfl⟩ := rng_get hd
    exact ⟨trivial, hs i ρ S N h1 hI hN⟩) fun ρ S hI => ⟨trivial, he ρ S (by simpa using hI)⟩
theorem lcI {st : Sto → Prop} {p : Pat} {t : WT} {e : W} {ρ0 : Rho} {Q : Q1} {xs : List D} {S : Sto} (I : Nat → List D → Sto → Prop) (h0 : I 0 [] S)
    (hs : ∀ i d acc S (N : List D → Sto → Prop), xs[i]? = some d → I i acc S → (∀ acc' S', I (i + 1) acc' S' → N acc' S') → st S ∧ gv (bindP p d ρ0) fun ρ1 => t (noX, ρ1) S fun b S1 => if b = true then e (noX, ρ1) S1 fun y S2 => acc.length < sizeLine ∧ N (acc ++ [y]) S2 else N acc S1)
    (he : ∀ acc S, I xs.length acc S → st S ∧ Q (.ref S.length) (S ++ [.lst acc])) : lcGo st p t e ρ0 Q xs [] S := by
  have key : ∀ (ys : List D) i acc S, xs.drop i = ys → i ≤ xs.length → I i acc S → lcGo st p t e ρ0 Q ys acc S := by
    intro ys
    induction ys with
    | nil =>
      intro i acc S h hi hI
      have : xs.length ≤ i := List.drop_eq_nil_iff.mp h
      have e : i = xs.length := by omega
      subst e
      exact he acc S hI
    | cons y ys ih =>
      intro i acc S h hi hI
      have hl : i < xs.length := by
        apply Nat.lt_of_not_le
        intro z
        rw [List.drop_of_length_le z] at h
        cases h
      rw [List.drop_eq_getElem_cons hl] at h
      injection h with h1 h2
      exact hs i y acc S (lcGo st p t e ρ0 Q ys) (by rw [List.getElem?_eq_getElem hl, h1]) hI fun acc' S' hI' => ih (i + 1) acc' S' h2 hl hI'
  exact key xs 0 [] S rfl (Nat.zero_le _) h0
theorem lcR {p : Pat} {t : WT} {e : W} {ρ0 : Rho} {Q : Q1} {n : Nat} {lo : Int} {S : Sto} (I : Nat → List D → Sto → Prop) (h0 : I 0 [] S)
    (hs : ∀ i acc S (N : List D → Sto → Prop), i < n → I i acc S → (∀ acc' S', I (i + 1) acc' S' → N acc' S') → gv (bindP p (.int (lo + (i : Nat))) ρ0) fun ρ1 => t (noX, ρ1) S fun b S1 => if b = true then e (noX, ρ1) S1 fun y S2 => acc.length < sizeLine ∧ N (acc ++ [y]) S2 else N acc S1)
    (he : ∀ acc S, I n acc S → Q (.ref S.length) (S ++ [.lst acc])) : lcGo (fun _ => True) p t e ρ0 Q ((List.range n).map fun k => .int (lo + (k : Nat))) [] S :=
  lcI I h0 (fun i d acc S N hd hI hN => by
    obtain ⟨h1, rfl⟩ := rng_get hd
    exact ⟨trivial, hs i acc S N h1 hI hN⟩) fun acc S hI => ⟨trivial, he acc S (by simpa using hI)⟩

/-! ### ints that are naturals -/
abbrev nt (n : Nat) : D := .int (n : Int)
section
variable {a b : Nat} {S : Sto} {Q : Q1}
theorem n_add (q : Q (nt (a + b)) S) : opAdd (nt a) (nt b) S Q := by
  show Q (.int ((a : Int) + (b : Int))) S
  rw [← Int.natCast_add]
  exact q
theorem n_sub (h : b ≤ a) (q : Q (nt (a - b)) S) : opSub (nt a) (nt b) S Q := by
  show Q (.int ((a : Int) - (b : Int))) S
  rw [← Int.ofNat_sub h]
  exact q
theorem n_and (q : Q (nt (a &&& b)) S) : opAnd (nt a) (nt b) S Q := by
  show Q (.int (Builtin.bitAnd (a : Int) (b : Int))) S
  rw [PySem.W.os_band]
  exact q
theorem n_or (q : Q (nt (a ||| b)) S) : opOr (nt a) (nt b) S Q := by
  show Q (.int (Builtin.bitOr (a : Int) (b : Int))) S
  have e : Builtin.bitOr (a : Int) (b : Int) = ((a ||| b : Nat) : Int) := by
    rw [bitOr_and, PySem.W.os_band]
    have h1 : ((a &&& b) + (a ^^^ b)) = a ||| b := by
      rw [add_or' (fun i => by rw [Nat.testBit_and, Nat.testBit_xor]; cases a.testBit i <;> cases b.testBit i <;> rfl)]
      apply bit_ext
      intro i
      rw [Nat.testBit_or, Nat.testBit_or, Nat.testBit_and, Nat.testBit_xor]
      cases a.testBit i <;> cases b.testBit i <;> rfl
    have h2 : (a &&& b) + (a ||| b) = a + b := by
      have h3 := (bit_sub (a := a) (b := a &&& b) fun i e => by rw [Nat.testBit_and] at e; exact (Bool.and_eq_true_iff.mp e).1)
      have h4 : (a - (a &&& b)) + b = a ||| b := by
        rw [add_or' (fun i => by rw [h3.2, Nat.testBit_and]; cases a.testBit i <;> cases b.testBit i <;> rfl)]
        apply bit_ext
        intro i
        rw [Nat.testBit_or, Nat.testBit_or, h3.2, Nat.testBit_and]
        cases a.testBit i <;> cases b.testBit i <;> rfl
      have := h3.1
      omega
    omega
  rw [e]
  exact q
theorem n_xor (q : Q (nt (a ^^^ b)) S) : opXor (nt a) (nt b) S Q := by
  have hor : Builtin.bitOr (a : Int) (b : Int) = ((a ||| b : Nat) : Int) := by
    have := n_or (a := a) (b := b) (S := []) (Q := fun d _ => d = nt (a ||| b)) rfl
    injection this
  show Q (.int (Builtin.bitOr (a : Int) (b : Int) - Builtin.bitAnd (a : Int) (b : Int))) S
  rw [hor, PySem.W.os_band]
  have h3 := (bit_sub (a := a ||| b) (b := a &&& b) fun i e => by rw [Nat.testBit_and] at e; rw [Nat.testBit_or, (Bool.and_eq_true_iff.mp e).1]; rfl)
  have e : (a ||| b) - (a &&& b) = a ^^^ b := by
    apply bit_ext
    intro i
    rw [h3.2, Nat.testBit_or, Nat.testBit_and, Nat.testBit_xor]
    cases a.testBit i <;> cases b.testBit i <;> rfl
  rw [← Int.ofNat_sub h3.1, e]
  exact q
theorem bits_le {n k : Nat} (h : n < 2 ^ k) : Builtin.Int.intBits (n : Int) ≤ k := by
  unfold Builtin.Int.intBits
  split
  · exact Nat.zero_le _
  · rename_i h0
    have h1 : n ≠ 0 := by
      intro z
      subst z
      exact h0 rfl
    have := (Nat.log2_lt h1).mpr h
    show (n : Int).natAbs.log2 + 1 ≤ k
    rw [Int.natAbs_natCast]
    omega
theorem bits_eq {k : Nat} : Builtin.Int.intBits ((2 ^ k : Nat) : Int) = k + 1 := by
  unfold Builtin.Int.intBits
  have h1 : (2 ^ k : Nat) ≠ 0 := Nat.ne_of_gt (Nat.two_pow_pos k)
  rw [if_neg (by
    intro z
    have := eq_of_beq z
    omega), Int.natAbs_natCast, Nat.log2_two_pow]
theorem n_shl (k : Nat) (h : a < 2 ^ k) (hb : k + b ≤ 134217728) (q : Q (nt (a * 2 ^ b)) S) : opShl (nt a) (nt b) S Q := by
  refine ⟨⟨Int.natCast_nonneg b, ?_⟩, ?_⟩
  · have := bits_le h
    show (Builtin.Int.intBits (a : Int) : Int) + (b : Int) ≤ 2 ^ 27
    have e : (2 : Int) ^ 27 = 134217728 := by decide
    rw [e]
    omega
  · show Q (.int ((a : Int) * 2 ^ (b : Int).toNat)) S
    rw [Int.toNat_natCast]
    have e : (a : Int) * 2 ^ b = ((a * 2 ^ b : Nat) : Int) := by
      rw [Int.natCast_mul, Int.natCast_pow]
      rfl
    rw [e]
    exact q
theorem n_shl1 (hb : b ≤ 134217727) (q : Q (nt (2 ^ b)) S) : opShl (.int 1) (nt b) S Q :=
  n_shl (a := 1) 1 (by decide) (by omega) (by rw [Nat.one_mul]; exact q)
theorem n_shr (q : Q (nt (a >>> b)) S) : opShr (nt a) (nt b) S Q := by
  refine ⟨Int.natCast_nonneg b, ?_⟩
  show Q (.int ((a : Int) / 2 ^ (b : Int).toNat)) S
  rw [Int.toNat_natCast]
  have e : (a : Int) / 2 ^ b = ((a >>> b : Nat) : Int) := by
    rw [Nat.shiftRight_eq_div_pow, Int.natCast_ediv, Int.natCast_pow]
    rfl
  rw [e]
  exact q
theorem n_div (h0 : 0 < b) (h : b < 2 ^ 8999) (q : Q (nt (a / b)) S) : opDiv (nt a) (nt b) S Q := by
  refine ⟨⟨by omega, ?_⟩, ?_⟩
  · rw [Int.natAbs_natCast, Nat.log2_lt (by omega)]
    exact Nat.lt_of_lt_of_le h (Nat.pow_le_pow_right (by decide) (by decide))
  · show Q (.int ((a : Int) / (b : Int))) S
    rw [← Int.natCast_ediv]
    exact q
theorem n_mod (h0 : 0 < b) (q : Q (nt (a % b)) S) : opMod (nt a) (nt b) S Q := by
  refine ⟨by omega, ?_⟩
  show Q (.int ((a : Int) % (b : Int))) S
  rw [← Int.natCast_emod]
  exact q
theorem n_mulS (h : b < 2 ^ 64) (q : Q (nt (a * b)) S) : opMul (nt a) (nt b) S Q := by
  refine ⟨.inl (.inr ⟨by omega, by omega⟩), ?_⟩
  show Q (.int ((a : Int) * (b : Int))) S
  rw [← Int.natCast_mul]
  exact q
/-- header >> bit & 1, as a test -/
theorem n_bit (q : Q (nt (a.testBit b).toNat) S) : opShr (nt a) (nt b) S (fun x S1 => opAnd x (.int 1) S1 Q) := by
  refine n_shr (n_and (a := a >>> b) (b := 1) ?_)
  have e : (a >>> b) &&& 1 = (a.testBit b).toNat := by
    rw [Nat.and_one_is_mod, Nat.testBit_eq_decide_div_mod_eq, Nat.shiftRight_eq_div_pow]
    rcases Nat.mod_two_eq_zero_or_one (a / 2 ^ b) with h | h <;> simp [h]
  rw [e]
  exact q
theorem n_tru {QB : Bool → Prop} (q : QB (!decide (a = 0))) : truD (nt a) S QB := by
  show QB ((a : Int) != 0)
  have e : ((a : Int) != 0) = !decide (a = 0) := by
    by_cases h : a = 0
    · subst h; rfl
    · have : ((a : Int) == 0) = false := by
        apply beq_eq_false_iff_ne.mpr
        omega
      simp [bne, this, h]
  rw [e]
  exact q
theorem n_truB {c : Bool} {QB : Bool → Prop} (q : QB c) : truD (nt c.toNat) S QB := n_tru (by cases c <;> exact q)
theorem n_eq {S : Sto} {Q : Q1} (q : Q (.bl (decide (a = b))) S) : cmpD .Eq (nt a) (nt b) S Q := by
  show Q (.bl (decide ((a : Int) = (b : Int)))) S
  have e : decide ((a : Int) = (b : Int)) = decide (a = b) := by rw [decide_eq_decide]; omega
  rw [e]; exact q
theorem n_ne {S : Sto} {Q : Q1} (q : Q (.bl (!decide (a = b))) S) : cmpD .NotEq (nt a) (nt b) S Q := by
  show Q (.bl (!decide ((a : Int) = (b : Int)))) S
  have e : decide ((a : Int) = (b : Int)) = decide (a = b) := by rw [decide_eq_decide]; omega
  rw [e]; exact q
theorem n_lt {S : Sto} {Q : Q1} (q : Q (.bl (decide (a < b))) S) : cmpD .Lt (nt a) (nt b) S Q := by
  show Q (.bl (decide ((a : Int) < (b : Int)))) S
  have e : decide ((a : Int) < (b : Int)) = decide (a < b) := by rw [decide_eq_decide]; omega
  rw [e]; exact q
theorem n_gt {S : Sto} {Q : Q1} (q : Q (.bl (decide (b < a))) S) : cmpD .Gt (nt a) (nt b) S Q := by
  show Q (.bl (decide ((b : Int) < (a : Int)))) S
  have e : decide ((b : Int) < (a : Int)) = decide (b < a) := by rw [decide_eq_decide]; omega
  rw [e]; exact q
end

/-! ### the store grows -/
def Ext (S S' : Sto) : Prop := ∀ (i : Nat) (o : O), S[i]? = some o → S'[i]? = some o
theorem Ext.refl (S : Sto) : Ext S S := fun _ _ h => h
theorem Ext.trans {S S1 S2 : Sto} (a : Ext S S1) (b : Ext S1 S2) : Ext S S2 := fun i o h => b i o (a i o h)
theorem Ext.push (S : Sto) (o : O) : Ext S (S ++ [o]) := fun i u h => by
  rw [List.getElem?_append_left (List.getElem?_eq_some_iff.mp h).1]
  exact h
theorem Ext.len {S S' : Sto} (h : Ext S S') : S.length ≤ S'.length := by
  apply Nat.le_of_not_lt
  intro z
  have := h S'.length S[S'.length] (List.getElem?_eq_getElem z)
  simp at this
theorem Ext.set {S S' : Sto} {n : Nat} {o : O} (h : Ext S S') (hn : S.length ≤ n) : Ext S (S'.set n o) := fun i u e => by
  have := (List.getElem?_eq_some_iff.mp e).1
  rw [List.getElem?_set_ne (by omega)]
  exact h i u e
theorem push_at {S : Sto} {o : O} : (S ++ [o])[S.length]? = some o := by simp
theorem set_at {S : Sto} {n : Nat} {o u : O} (h : S[n]? = some u) : (S.set n o)[n]? = some o := List.getElem?_set_self (List.getElem?_eq_some_iff.mp h).1
theorem set_ne {S : Sto} {n m : Nat} {o : O} (h : n ≠ m) : (S.set n o)[m]? = S[m]? := List.getElem?_set_ne h
/-- what follows, shown once -/
theorem sq_cut {x y : WS} {k : KK} {ρ : Rho} {S : Sto} (I : Rho → Sto → Prop) (h : ∀ N : Rho → Sto → Prop, (∀ ρ S, I ρ S → N ρ S) → x { k with nx := N } ρ S) (h2 : ∀ ρ S, I ρ S → y k ρ S) : wSq x y k ρ S := h _ h2
theorem if_cut {t : WT} {x y : WS} {k : KK} {ρ : Rho} {S : Sto} (h : t (k.en ρ) S fun c S1 => if c = true then x k ρ S1 else y k ρ S1) : wIfS t x y k ρ S := h
section
variable {S : Sto} {Q : Q1} {n : Nat} {i : Int} {ds : List D} {d v : D}
theorem i_ref (h : S[n]? = some (.lst ds)) (e : atI ds i = some d) (q : Q d S) : idxD (.ref n) (.int i) S Q := by
  refine .inl ⟨ds, i, rfl, h, ?_⟩
  rw [e]
  exact q
theorem i_tup (e : atI ds i = some d) (q : Q d S) : idxD (.tup ds) (.int i) S Q := by
  show gv (atI ds i) _
  rw [e]
  exact q
theorem i_set {j : Nat} {P : Sto → Prop} (h : S[n]? = some (.lst ds)) (e : ixN ds.length i = some j) (q : P (S.set n (.lst (ds.set j v)))) : setD (.ref n) (.int i) v S P := by
  refine .inl ⟨ds, i, rfl, h, ?_⟩
  rw [e]
  exact q
end
/-- nothing but the object n is another -/
def Only1 (n : Nat) (S S' : Sto) : Prop := S'.length = S.length ∧ ∀ i, i ≠ n → S'[i]? = S[i]?
theorem Only1.refl (n : Nat) (S : Sto) : Only1 n S S := ⟨rfl, fun _ _ => rfl⟩
theorem Only1.trans {n : Nat} {S S1 S2 : Sto} (a : Only1 n S S1) (b : Only1 n S1 S2) : Only1 n S S2 := ⟨b.1.trans a.1, fun i h => (b.2 i h).trans (a.2 i h)⟩
theorem Only1.set {n : Nat} {S : Sto} {o : O} : Only1 n S (S.set n o) := ⟨List.length_set, fun i h => List.getElem?_set_ne (Ne.symm h)⟩
/-- the store grows, and the object n may be another -/
def ExtB (n : Nat) (S S' : Sto) : Prop := S.length ≤ S'.length ∧ ∀ (i : Nat) (o : O), i ≠ n → S[i]? = some o → S'[i]? = some o
theorem ExtB.refl (n : Nat) (S : Sto) : ExtB n S S := ⟨Nat.le_refl _, fun _ _ _ h => h⟩
theorem ExtB.trans {n : Nat} {S S1 S2 : Sto} (a : ExtB n S S1) (b : ExtB n S1 S2) : ExtB n S S2 := ⟨Nat.le_trans a.1 b.1, fun i o h e => b.2 i o h (a.2 i o h e)⟩
theorem Only1.ext {n : Nat} {S S' : Sto} (h : Only1 n S S') : ExtB n S S' := ⟨by rw [h.1]; exact Nat.le_refl _, fun i o hi e => by rw [h.2 i hi]; exact e⟩
theorem Ext.extB {n : Nat} {S S' : Sto} (h : Ext S S') : ExtB n S S' := ⟨h.len, fun i o _ e => h i o e⟩
theorem ExtB.push {n : Nat} {S : Sto} {o : O} : ExtB n S (S ++ [o]) := (Ext.push S o).extB
theorem ExtB.set {n m : Nat} {S S' : Sto} {o : O} (h : ExtB n S S') (hm : S.length ≤ m) : ExtB n S (S'.set m o) := ⟨by rw [List.length_set]; exact h.1, fun i u hi e => by
  have := (List.getElem?_eq_some_iff.mp e).1
  rw [List.getElem?_set_ne (by omega)]
  exact h.2 i u hi e⟩
section
variable {i j : Int} {S : Sto} {Q : Q1} {ds : List D} {n : Nat}
theorem c_int (q : Q (.int i) S) : intC [.int i] S Q := q
theorem i_ge (q : Q (.bl (decide (j ≤ i))) S) : cmpD .GtE (.int i) (.int j) S Q := q
theorem i_pow (h : CPow i j) (q : Q (.int (i ^ j.toNat)) S) : opPow (.int i) (.int j) S Q := ⟨h, q⟩
theorem c_tupT (q : Q (.tup ds) S) : tupleC [.tup ds] S Q := q
theorem c_tupL (h : S[n]? = some (.lst ds)) (q : Q (.tup ds) S) : tupleC [.ref n] S Q := ⟨ds, h, q⟩
theorem c_lstT (q : Q (.ref S.length) (S ++ [.lst ds])) : listC [.tup ds] S Q := q
theorem c_lstL (h : S[n]? = some (.lst ds)) (q : Q (.ref S.length) (S ++ [.lst ds])) : listC [.ref n] S Q := ⟨ds, h, q⟩
theorem c_lenT (q : Q (nt ds.length) S) : lenC [.tup ds] S Q := q
theorem c_lenL (h : S[n]? = some (.lst ds)) (q : Q (nt ds.length) S) : lenC [.ref n] S Q := .inl ⟨ds, h, q⟩
theorem s_fro {lo hi : Option Int} (q : Q (.ref S.length) (S ++ [.lst (cutD ds lo hi)])) : slcD (.fro ds) lo hi S Q := q
theorem m_app {d : D} (h : S[n]? = some (.lst ds)) (hl : ds.length < sizeLine) (q : Q .non (S.set n (.lst (ds ++ [d])))) : appM (.ref n) [d] S Q := ⟨ds, h, hl, q⟩
end
theorem rd_wp0 {ρ : Rho} : wipeR ρ [] = ρ := rfl
theorem rd_wp1 {ρ : Rho} {v : Nat} {vs : List Nat} : wipeR ρ (v :: vs) = putR (wipeR ρ vs) v none := rfl
/-! two lists of naturals compared -/
theorem dp_nts {S : Sto} : ∀ xs : List Nat, DpAllD S (xs.map nt) (xs.map fun n : Nat => PyData.int (n : Int))
  | [] => .nil
  | x :: r => .cons (.int _) (dp_nts r)
theorem lay_nts : ∀ xs : List Nat, PyData.canLayAll0 (xs.map fun n : Nat => PyData.int (n : Int)) = true
  | [] => rfl
  | x :: r => by
    show (true && PyData.canLayAll0 (r.map fun n : Nat => PyData.int (n : Int))) = true
    rw [lay_nts r]; rfl
theorem dep_nts : ∀ xs : List Nat, PyData.depthAll (xs.map fun n : Nat => PyData.int (n : Int)) = 0
  | [] => rfl
  | x :: r => by
    show max 0 (PyData.depthAll (r.map fun n : Nat => PyData.int (n : Int))) = 0
    rw [dep_nts r]; rfl
theorem eqv_nts : ∀ xs ys : List Nat, PyData.eqvAll (xs.map fun n : Nat => PyData.int (n : Int)) (ys.map fun n : Nat => PyData.int (n : Int)) = decide (xs = ys)
  | [], [] => rfl
  | [], _ :: _ => rfl
  | _ :: _, [] => rfl
  | x :: xs, y :: ys => by
    show (((x : Int) == (y : Int)) && PyData.eqvAll (xs.map fun n : Nat => PyData.int (n : Int)) (ys.map fun n : Nat => PyData.int (n : Int))) = decide (x :: xs = y :: ys)
    rw [eqv_nts xs ys]
    rw [Bool.eq_iff_iff]
    simp only [Bool.and_eq_true, beq_iff_eq, decide_eq_true_eq, List.cons.injEq]
    constructor
    · rintro ⟨a, b⟩
      exact ⟨by omega, b⟩
    · rintro ⟨a, b⟩
      exact ⟨by omega, b⟩
theorem shp_lst (xs : List Nat) : SeqAt.shaped (.list (xs.map fun n : Nat => PyData.int (n : Int))) = true := by
  unfold SeqAt.shaped
  rw [Bool.and_eq_true_iff]
  refine ⟨lay_nts xs, decide_eq_true ?_⟩
  show PyData.depthAll (xs.map fun n : Nat => PyData.int (n : Int)) + 1 ≤ 64
  rw [dep_nts]
  decide
theorem eq_lists {S : Sto} {Q : Q1} {p q : Nat} {xs ys : List Nat} {neg : Bool} (h1 : S[p]? = some (.lst (xs.map nt))) (h2 : S[q]? = some (.lst (ys.map nt))) (k : Q (.bl (sg neg (decide (xs = ys)))) S) : cmpEq neg (.ref p) (.ref q) S Q := by
  refine ⟨_, _, .lst h1 (dp_nts xs), .lst h2 (dp_nts ys), shp_lst xs, shp_lst ys, ?_⟩
  show Q (.bl (sg neg (PyData.eqvAll _ _))) S
  rw [eqv_nts]
  exact k
theorem l_eq {S : Sto} {Q : Q1} {p q : Nat} {xs ys : List Nat} (h1 : S[p]? = some (.lst (xs.map nt))) (h2 : S[q]? = some (.lst (ys.map nt))) (k : Q (.bl (decide (xs = ys))) S) : cmpD .Eq (.ref p) (.ref q) S Q := eq_lists (neg := false) h1 h2 k
theorem l_ne {S : Sto} {Q : Q1} {p q : Nat} {xs ys : List Nat} (h1 : S[p]? = some (.lst (xs.map nt))) (h2 : S[q]? = some (.lst (ys.map nt))) (k : Q (.bl (!decide (xs = ys))) S) : cmpD .NotEq (.ref p) (.ref q) S Q := eq_lists (neg := true) h1 h2 k
theorem i_sset {n : Nat} {hs : List Nat} {S : Sto} {Q : Q1} (hn : S[n]? = some (.lst (hs.map nt))) (hl : hs.length ≤ 4000) (q : ∀ ms : List Nat, ms.Pairwise (· < ·) → (∀ k, k ∈ ms ↔ k ∈ hs) → Q (.ref S.length) (S ++ [.lst (ms.map nt)])) : ssetD (.ref n) S Q := by
  have e : hs.map nt = (hs.map fun h : Nat => (h : Int)).map D.int := by rw [List.map_map]; rfl
  refine ⟨hs.map fun h : Nat => (h : Int), by rw [← e]; exact hn, by rw [List.length_map]; exact hl, fun ms h1 h2 => ?_⟩
  have hpos : ∀ k ∈ ms, 0 ≤ k := fun k hk => by
    obtain ⟨h, _, rfl⟩ := List.mem_map.mp ((h2 k).mp hk)
    exact Int.natCast_nonneg h
  have e2 : ms.map D.int = (ms.map Int.toNat).map nt := by
    rw [List.map_map]
    refine List.map_congr_left fun k hk => ?_
    show D.int k = D.int (k.toNat : Int)
    rw [Int.toNat_of_nonneg (hpos k hk)]
  rw [e2]
  refine q _ ?_ fun k => ?_
  · rw [List.pairwise_map]
    exact List.Pairwise.imp_of_mem (fun {a b} ha hb h => by
      have := hpos a ha
      have := hpos b hb
      omega) h1
  · rw [List.mem_map]
    constructor
    · rintro ⟨a, ha, rfl⟩
      obtain ⟨h, hh, e⟩ := List.mem_map.mp ((h2 a).mp ha)
      subst e
      exact hh
    · intro hk
      exact ⟨(k : Int), (h2 _).mpr (List.mem_map.mpr ⟨k, hk, rfl⟩), Int.toNat_natCast k⟩
end WW


set_option Elab.async false
set_option linter.all false
set_option maxRecDepth 100000
set_option maxHeartbeats 4000000
set_option autoImplicit false
namespace WW
open PySem PySem.Spec PyProof.Rows L2

/-! ### values without a store: what is passive (never changed any more), what is owned -/
inductive P where
  | non | bl (b : Bool) | int (i : Int) | str (s : Str) | tup (xs : List P) | fro (xs : List P) | lst (xs : List P) | dct (t : Nat) (kvs : List (P × P)) | obj (c : Str) (fs : List (Str × P))
noncomputable instance : DecidableEq P := fun _ _ => Classical.propDecidable _
abbrev MemoF := Str → List (Str × P) → List (Str × (O → Prop))
/-- what the caches of an own class hold (none here) -/
def M0 : MemoF := fun _ _ => []
end WW


set_option Elab.async false
set_option linter.all false
set_option maxRecDepth 100000
set_option maxHeartbeats 4000000
set_option autoImplicit false
namespace WW
open PySem PySem.Spec PyProof.Rows L2

/-! ### values without a store -/
/-- p: passive; b: lent (read, never kept); o: owned by its slot; io: lent to be changed -/
inductive V' where
  | p (x : P) | b (x : P) | o (x : P) | io (x : P)
abbrev VEnv := List (Option V')
inductive Hd where
  | slot (i : Nat) | v (v : V')
structure Wd where
  sh : Nat → Prop
  G : Nat → Option (O → Prop)
def lk : VEnv → Nat → Option V'
  | [], _ => none
  | x :: _, 0 => x
  | _ :: r, n + 1 => lk r n
def pt : VEnv → Nat → Option V' → VEnv
  | [], _, _ => []
  | _ :: r, 0, y => y :: r
  | x :: r, n + 1, y => x :: pt r n y
theorem pt_len (r : VEnv) (i : Nat) (y : Option V') : (pt r i y).length = r.length := by
  induction r generalizing i with
  | nil => rfl
  | cons x r ih => cases i with
    | zero => rfl
    | succ n => show (pt r n y).length + 1 = r.length + 1; rw [ih]
theorem lk_pt (r : VEnv) (i j : Nat) (y : Option V') : lk (pt r i y) j = if i = j ∧ i < r.length then y else lk r j := by
  induction r generalizing i j with
  | nil => simp [pt, lk]
  | cons x r ih =>
    cases i with
    | zero => cases j with
      | zero => simp [pt, lk]
      | succ m => simp [pt, lk]
    | succ n => cases j with
      | zero => simp [pt, lk]
      | succ m => simp [pt, lk, ih]
theorem lk_lt {E : VEnv} {i : Nat} {v : V'} (h : lk E i = some v) : i < E.length := by
  induction E generalizing i with
  | nil => cases h
  | cons x r ih => cases i with
    | zero => exact Nat.zero_lt_succ _
    | succ n => exact Nat.succ_lt_succ (ih h)
theorem look_lt {E : Rho} {i : Nat} {v : D} (h : look E i = some v) : i < E.length := by
  induction E generalizing i with
  | nil => cases h
  | cons x r ih => cases i with
    | zero => exact Nat.zero_lt_succ _
    | succ n => exact Nat.succ_lt_succ (ih h)
def V'.val : V' → P
  | .p x => x | .b x => x | .o x => x | .io x => x
def V'.own : V' → Bool
  | .o _ => true | .io _ => true | _ => false
def Sh (wd : Wd) : D → Prop
  | .ref n => wd.sh n
  | _ => True
def kP : Key → P
  | .inl i => .int i
  | .inr s => .str s
def RepM (wd : Wd) : List (Str × (O → Prop)) → List (Str × D) → Prop
  | [], l => l = []
  | (f, φ) :: r, l => ∃ m s, l = (f, .ref m) :: s ∧ wd.G m = some φ ∧ RepM wd r s
/-- the dict at n has these keys and holds ds -/
def DctAt (S : Sto) (n : Nat) (ks : List P) (ds : List D) : Nat → Prop
  | 0 => ∃ kvs : List (Key × D), S[n]? = some (.dK false kvs) ∧ kvs.map (·.2) = ds ∧ kvs.map (fun kv => kP kv.1) = ks
  | 1 => ∃ kvs : List (List Key × D), S[n]? = some (.dT false kvs) ∧ kvs.map (·.2) = ds ∧ kvs.map (fun kv => P.tup (kv.1.map kP)) = ks
  | 10 => ∃ kvs : List (Key × D), S[n]? = some (.dK true kvs) ∧ kvs.map (·.2) = ds ∧ kvs.map (fun kv => kP kv.1) = ks
  | 11 => ∃ kvs : List (List Key × D), S[n]? = some (.dT true kvs) ∧ kvs.map (·.2) = ds ∧ kvs.map (fun kv => P.tup (kv.1.map kP)) = ks
  | _ => False
mutual
/-- d is x, as the store has it; what stands in x is passive -/
def RepT (wd : Wd) (S : Sto) : P → D → Prop
  | .non, d => d = .non
  | .bl b, d => d = .bl b
  | .int i, d => d = .int i
  | .str s, d => d = .str s
  | .tup xs, d => ∃ ds, d = .tup ds ∧ RepL wd S xs ds
  | .fro xs, d => ∃ ds, d = .fro ds ∧ RepL wd S xs ds
  | .lst xs, d => ∃ n ds, d = .ref n ∧ S[n]? = some (.lst ds) ∧ RepL wd S xs ds
  | .dct t kvs, d => ∃ n ds, d = .ref n ∧ DctAt S n (kvs.map (·.1)) ds t ∧ RepK wd S kvs ds
  | .obj c fs, d => ∃ n vis mem, d = .ref n ∧ S[n]? = some (.ins c (vis ++ mem)) ∧ RepF wd S fs vis ∧ RepM wd (M0 c fs) mem
def RepL (wd : Wd) (S : Sto) : List P → List D → Prop
  | [], l => l = []
  | x :: r, l => ∃ d s, l = d :: s ∧ RepT wd S x d ∧ Sh wd d ∧ RepL wd S r s
def RepK (wd : Wd) (S : Sto) : List (P × P) → List D → Prop
  | [], l => l = []
  | kv :: r, l => ∃ d s, l = d :: s ∧ RepT wd S kv.2 d ∧ Sh wd d ∧ RepK wd S r s
def RepF (wd : Wd) (S : Sto) : List (Str × P) → List (Str × D) → Prop
  | [], l => l = []
  | kv :: r, l => ∃ d s, l = (kv.1, d) :: s ∧ RepT wd S kv.2 d ∧ Sh wd d ∧ RepF wd S r s
end
def RepP (wd : Wd) (S : Sto) (x : P) (d : D) : Prop := RepT wd S x d ∧ Sh wd d
def Rep (wd : Wd) (S : Sto) : V' → D → Prop
  | .p x, d => RepP wd S x d
  | .b x, d => RepT wd S x d
  | .o x, d => RepT wd S x d ∧ ∃ n, d = .ref n
  | .io x, d => RepT wd S x d ∧ ∃ n, d = .ref n
def OwnAt (E : VEnv) (ρ : Rho) (n : Nat) : Prop := ∃ i v, lk E i = some v ∧ v.own = true ∧ look ρ i = some (.ref n)
structure Inv' (wd : Wd) (E : VEnv) (ρ : Rho) (S : Sto) : Prop where
  len : E.length = ρ.length
  rep : ∀ i v, lk E i = some v → ∃ d, look ρ i = some d ∧ Rep wd S v d
  one : ∀ i j v w n, lk E i = some v → lk E j = some w → v.own = true → w.own = true → look ρ i = some (.ref n) → look ρ j = some (.ref n) → i = j
  bor : ∀ i x n, lk E i = some (.b x) → look ρ i = some (.ref n) → ¬ OwnAt E ρ n ∧ wd.G n = none
  osh : ∀ n, OwnAt E ρ n → ¬ wd.sh n ∧ wd.G n = none
  shl : ∀ n, wd.sh n → n < S.length ∧ wd.G n = none
  gok : ∀ n φ, wd.G n = some φ → ∃ o, S[n]? = some o ∧ φ o
structure Step (wd : Wd) (E : VEnv) (ρ : Rho) (S : Sto) (wd' : Wd) (E' : VEnv) (ρ' : Rho) (S' : Sto) : Prop where
  len : S.length ≤ S'.length
  shm : ∀ n, wd.sh n → wd'.sh n
  shn : ∀ n, wd'.sh n → wd.sh n ∨ S.length ≤ n ∨ OwnAt E ρ n
  Gm : ∀ n φ, wd.G n = some φ → wd'.G n = some φ
  Gn : ∀ n φ, wd'.G n = some φ → wd.G n = some φ ∨ S.length ≤ n
  own : ∀ n, OwnAt E' ρ' n → OwnAt E ρ n ∨ S.length ≤ n
  fr : ∀ n o, S[n]? = some o → ¬ OwnAt E ρ n → wd.G n = none → S'[n]? = some o
  bor : ∀ i x, lk E' i = some (.b x) → lk E i = some (.b x) ∧ look ρ' i = look ρ i
  io : ∀ i x, lk E' i = some (.io x) → (∃ y, lk E i = some (.io y)) ∧ look ρ' i = look ρ i
  oo : ∀ i x n, lk E' i = some (.o x) → look ρ' i = some (.ref n) → (∃ j y, lk E j = some (.o y) ∧ look ρ j = some (.ref n)) ∨ S.length ≤ n

section
variable {wd wd1 wd2 wd' : Wd} {E E1 E2 E' : VEnv} {ρ ρ1 ρ2 ρ' : Rho} {S S1 S2 S' : Sto}
theorem at_lt {o : O} {n : Nat} (h : S[n]? = some o) : n < S.length := (List.getElem?_eq_some_iff.mp h).1
theorem Step.refl (wd : Wd) (E : VEnv) (ρ : Rho) (S : Sto) : Step wd E ρ S wd E ρ S :=
  ⟨Nat.le_refl _, fun _ h => h, fun _ h => .inl h, fun _ _ h => h, fun _ _ h => .inl h, fun _ h => .inl h, fun _ _ h _ _ => h, fun _ _ h => ⟨h, rfl⟩, fun _ _ h => ⟨⟨_, h⟩, rfl⟩, fun i x n h e => .inl ⟨i, x, h, e⟩⟩
theorem Step.trans (a : Step wd E ρ S wd1 E1 ρ1 S1) (b : Step wd1 E1 ρ1 S1 wd2 E2 ρ2 S2) : Step wd E ρ S wd2 E2 ρ2 S2 where
  len := Nat.le_trans a.len b.len
  shm := fun n h => b.shm n (a.shm n h)
  shn := fun n h => by
    rcases b.shn n h with q | q | q
    · exact a.shn n q
    · exact .inr (.inl (Nat.le_trans a.len q))
    · rcases a.own n q with z | z
      · exact .inr (.inr z)
      · exact .inr (.inl z)
  Gm := fun n φ h => b.Gm n φ (a.Gm n φ h)
  Gn := fun n φ h => by
    rcases b.Gn n φ h with q | q
    · exact a.Gn n φ q
    · exact .inr (Nat.le_trans a.len q)
  own := fun n h => by
    rcases b.own n h with q | q
    · exact a.own n q
    · exact .inr (Nat.le_trans a.len q)
  fr := fun n o h h1 h2 => by
    have hl := at_lt h
    refine b.fr n o (a.fr n o h h1 h2) (fun q => ?_) ?_
    · rcases a.own n q with z | z
      · exact h1 z
      · omega
    · cases e : wd1.G n with
      | none => rfl
      | some φ =>
        rcases a.Gn n φ e with z | z
        · rw [h2] at z; cases z
        · omega
  bor := fun i x h => by
    obtain ⟨h1, e1⟩ := b.bor i x h
    obtain ⟨h2, e2⟩ := a.bor i x h1
    exact ⟨h2, e1.trans e2⟩
  io := fun i x h => by
    obtain ⟨⟨y, h1⟩, e1⟩ := b.io i x h
    obtain ⟨h2, e2⟩ := a.io i y h1
    exact ⟨h2, e1.trans e2⟩
  oo := fun i x n h e => by
    rcases b.oo i x n h e with ⟨j, y, h1, e1⟩ | q
    · exact a.oo j y n h1 e1
    · exact .inr (Nat.le_trans a.len q)
/-- what makes passive things stay: shared objects stay, the world grows -/
structure Keep (wd : Wd) (S : Sto) (wd' : Wd) (S' : Sto) : Prop where
  shm : ∀ n, wd.sh n → wd'.sh n
  Gm : ∀ n φ, wd.G n = some φ → wd'.G n = some φ
  st : ∀ n o, wd.sh n → S[n]? = some o → S'[n]? = some o
theorem Step.keep (a : Step wd E ρ S wd' E' ρ' S') (I : Inv' wd E ρ S) : Keep wd S wd' S' :=
  ⟨a.shm, a.Gm, fun n o h e => a.fr n o e (fun q => (I.osh n q).1 h) (I.shl n h).2⟩
theorem Keep.refl (wd : Wd) (S : Sto) : Keep wd S wd S := ⟨fun _ h => h, fun _ _ h => h, fun _ _ _ h => h⟩
theorem Sh.keep (k : Keep wd S wd' S') {d : D} (h : Sh wd d) : Sh wd' d := by
  cases d <;> first | trivial | exact k.shm _ h
theorem RepM.keep (k : Keep wd S wd' S') : ∀ {fs : List (Str × (O → Prop))} {l : List (Str × D)}, RepM wd fs l → RepM wd' fs l
  | [], _, h => h
  | (f, φ) :: r, _, h => by
    obtain ⟨m, s, rfl, h1, h2⟩ := h
    exact ⟨m, s, rfl, k.Gm _ _ h1, RepM.keep k h2⟩
theorem DctAt.keep {n t : Nat} {ks : List P} {ds : List D} (h : DctAt S n ks ds t) (e : ∀ o, S[n]? = some o → S'[n]? = some o) : DctAt S' n ks ds t := by
  match t, h with
  | 0, ⟨a, b, c⟩ => exact ⟨a, e _ b, c⟩
  | 1, ⟨a, b, c⟩ => exact ⟨a, e _ b, c⟩
  | 10, ⟨a, b, c⟩ => exact ⟨a, e _ b, c⟩
  | 11, ⟨a, b, c⟩ => exact ⟨a, e _ b, c⟩
/-- as long as its own object stays -/
def TopKeep (S S' : Sto) : D → Prop
  | .ref n => ∀ o, S[n]? = some o → S'[n]? = some o
  | _ => True
theorem topKeep_sh (k : Keep wd S wd' S') {d : D} (h : Sh wd d) : TopKeep S S' d := by
  cases d <;> first | trivial | exact fun o e => k.st _ o h e
mutual
theorem RepT.keepT (k : Keep wd S wd' S') : ∀ (x : P) (d : D), RepT wd S x d → TopKeep S S' d → RepT wd' S' x d
  | .non, _, h, _ => h
  | .bl _, _, h, _ => h
  | .int _, _, h, _ => h
  | .str _, _, h, _ => h
  | .tup xs, _, h, _ => by
    obtain ⟨ds, rfl, h2⟩ := h
    exact ⟨ds, rfl, RepL.keep k xs ds h2⟩
  | .fro xs, _, h, _ => by
    obtain ⟨ds, rfl, h2⟩ := h
    exact ⟨ds, rfl, RepL.keep k xs ds h2⟩
  | .lst xs, _, h, t => by
    obtain ⟨n, ds, rfl, h1, h2⟩ := h
    exact ⟨n, ds, rfl, t _ h1, RepL.keep k xs ds h2⟩
  | .dct _ kvs, _, h, t => by
    obtain ⟨n, ds, rfl, h1, h2⟩ := h
    exact ⟨n, ds, rfl, h1.keep t, RepK.keep k kvs ds h2⟩
  | .obj c fs, _, h, t => by
    obtain ⟨n, vis, mem, rfl, h1, h2, h3⟩ := h
    exact ⟨n, vis, mem, rfl, t _ h1, RepF.keep k fs vis h2, h3.keep k⟩
theorem RepL.keep (k : Keep wd S wd' S') : ∀ (xs : List P) (ds : List D), RepL wd S xs ds → RepL wd' S' xs ds
  | [], _, h => h
  | x :: r, _, h => by
    obtain ⟨d, s, rfl, h1, h2, h3⟩ := h
    exact ⟨d, s, rfl, RepT.keepT k x d h1 (topKeep_sh k h2), h2.keep k, RepL.keep k r s h3⟩
theorem RepK.keep (k : Keep wd S wd' S') : ∀ (xs : List (P × P)) (ds : List D), RepK wd S xs ds → RepK wd' S' xs ds
  | [], _, h => h
  | x :: r, _, h => by
    obtain ⟨d, s, rfl, h1, h2, h3⟩ := h
    exact ⟨d, s, rfl, RepT.keepT k x.2 d h1 (topKeep_sh k h2), h2.keep k, RepK.keep k r s h3⟩
theorem RepF.keep (k : Keep wd S wd' S') : ∀ (xs : List (Str × P)) (ds : List (Str × D)), RepF wd S xs ds → RepF wd' S' xs ds
  | [], _, h => h
  | x :: r, _, h => by
    obtain ⟨d, s, rfl, h1, h2, h3⟩ := h
    exact ⟨d, s, rfl, RepT.keepT k x.2 d h1 (topKeep_sh k h2), h2.keep k, RepF.keep k r s h3⟩
end
theorem RepP.keep (k : Keep wd S wd' S') {x : P} {d : D} (h : RepP wd S x d) : RepP wd' S' x d := ⟨RepT.keepT k x d h.1 (topKeep_sh k h.2), h.2.keep k⟩
/-- lists of passive values -/
theorem RepL.length : ∀ {xs : List P} {ds : List D}, RepL wd S xs ds → xs.length = ds.length
  | [], _, h => by cases h; rfl
  | x :: r, _, h => by
    obtain ⟨d, s, rfl, _, _, h3⟩ := h
    rw [List.length_cons, List.length_cons, RepL.length h3]
theorem RepL.get : ∀ {xs : List P} {ds : List D} {i : Nat} {x : P}, RepL wd S xs ds → xs[i]? = some x → ∃ d, ds[i]? = some d ∧ RepP wd S x d
  | [], _, _, _, _, e => by simp at e
  | x :: r, _, 0, _, h, e => by
    obtain ⟨d, s, rfl, h1, h2, h3⟩ := h
    simp at e; subst e
    exact ⟨d, rfl, h1, h2⟩
  | x :: r, _, i + 1, y, h, e => by
    obtain ⟨d, s, rfl, h1, h2, h3⟩ := h
    obtain ⟨q, e1, e2⟩ := RepL.get (i := i) (x := y) h3 (by simpa using e)
    exact ⟨q, by simpa using e1, e2⟩
theorem RepL.app : ∀ {xs ys : List P} {ds es : List D}, RepL wd S xs ds → RepL wd S ys es → RepL wd S (xs ++ ys) (ds ++ es)
  | [], _, _, _, h, g => by cases h; exact g
  | x :: r, _, _, _, h, g => by
    obtain ⟨d, s, rfl, h1, h2, h3⟩ := h
    exact ⟨d, s ++ _, rfl, h1, h2, RepL.app h3 g⟩
theorem RepL.one {x : P} {d : D} (h : RepP wd S x d) : RepL wd S [x] [d] := ⟨d, [], rfl, h.1, h.2, rfl⟩
theorem RepL.cons {x : P} {d : D} {xs : List P} {ds : List D} (h : RepP wd S x d) (g : RepL wd S xs ds) : RepL wd S (x :: xs) (d :: ds) := ⟨d, ds, rfl, h.1, h.2, g⟩
theorem RepL.uncons {x : P} {xs : List P} {ds : List D} (h : RepL wd S (x :: xs) ds) : ∃ d s, ds = d :: s ∧ RepP wd S x d ∧ RepL wd S xs s := by
  obtain ⟨d, s, e, h1, h2, h3⟩ := h
  exact ⟨d, s, e, ⟨h1, h2⟩, h3⟩
theorem RepL.take : ∀ {xs : List P} {ds : List D} (n : Nat), RepL wd S xs ds → RepL wd S (xs.take n) (ds.take n)
  | _, _, 0, _ => by rw [List.take_zero, List.take_zero]; rfl
  | [], _, n + 1, h => by cases h; rfl
  | x :: r, _, n + 1, h => by
    obtain ⟨d, s, rfl, h1, h2, h3⟩ := h
    exact ⟨d, s.take n, rfl, h1, h2, RepL.take n h3⟩
theorem RepL.drop : ∀ {xs : List P} {ds : List D} (n : Nat), RepL wd S xs ds → RepL wd S (xs.drop n) (ds.drop n)
  | _, _, 0, h => h
  | [], _, n + 1, h => by cases h; rfl
  | x :: r, _, n + 1, h => by
    obtain ⟨d, s, rfl, h1, h2, h3⟩ := h
    exact RepL.drop n h3
theorem RepL.set : ∀ {xs : List P} {ds : List D} {x : P} {d : D} (i : Nat), RepL wd S xs ds → RepP wd S x d → RepL wd S (xs.set i x) (ds.set i d)
  | [], _, _, _, _, h, _ => by cases h; rfl
  | x :: r, _, _, _, 0, h, g => by
    obtain ⟨d, s, rfl, h1, h2, h3⟩ := h
    exact ⟨_, s, rfl, g.1, g.2, h3⟩
  | x :: r, _, _, _, i + 1, h, g => by
    obtain ⟨d, s, rfl, h1, h2, h3⟩ := h
    exact ⟨d, s.set i _, rfl, h1, h2, RepL.set i h3 g⟩
theorem RepL.getD : ∀ {xs : List P} {ds : List D} {i : Nat} {d : D}, RepL wd S xs ds → ds[i]? = some d → ∃ x, xs[i]? = some x ∧ RepP wd S x d := fun {xs ds i d} h e => by
  have hl := (List.getElem?_eq_some_iff.mp e).1
  rw [← h.length] at hl
  obtain ⟨q, e1, e2⟩ := h.get (List.getElem?_eq_getElem hl)
  rw [e] at e1
  cases e1
  exact ⟨_, List.getElem?_eq_getElem hl, e2⟩
theorem RepL.rev : ∀ {xs : List P} {ds : List D}, RepL wd S xs ds → RepL wd S xs.reverse ds.reverse
  | [], _, h => by cases h; rfl
  | x :: r, _, h => by
    obtain ⟨d, s, rfl, h1, h2, h3⟩ := h
    rw [List.reverse_cons, List.reverse_cons]
    exact RepL.app (RepL.rev h3) (RepL.one ⟨h1, h2⟩)
theorem RepL.nil : RepL wd S [] [] := rfl
end
end WW


set_option Elab.async false
set_option linter.all false
set_option maxRecDepth 100000
set_option maxHeartbeats 4000000
set_option autoImplicit false
namespace WW
open PySem PySem.Spec PyProof.Rows L2

/-! ### expressions over values -/
abbrev XV := Str → List (Str × P) → VEnv → Prop
abbrev VE := XV → VEnv → (Hd → VEnv → Prop) → Prop
abbrev VA := XV → VEnv → (List Hd → VEnv → Prop) → Prop
abbrev VT := XV → VEnv → (Bool → VEnv → Prop) → Prop
abbrev VO := P → P → (V' → Prop) → Prop
def rd (E : VEnv) : Hd → Option P
  | .slot i => (lk E i).map V'.val
  | .v v => some v.val
def rds (E : VEnv) : List Hd → Option (List P)
  | [] => some []
  | h :: r => match rd E h, rds E r with
    | some x, some xs => some (x :: xs)
    | _, _ => none
def RepH (wd : Wd) (E : VEnv) (ρ : Rho) (S : Sto) (L : Nat) : Hd → D → Prop
  | .slot i, d => look ρ i = some d
  | .v (.p x), d => RepP wd S x d
  | .v (.o x), d => RepT wd S x d ∧ ∃ n, d = .ref n ∧ L ≤ n ∧ ¬ wd.sh n ∧ wd.G n = none ∧ ¬ OwnAt E ρ n
  | .v _, _ => False
def RepHs (wd : Wd) (E : VEnv) (ρ : Rho) (S : Sto) (L : Nat) : List Hd → List D → Prop
  | [], l => l = []
  | h :: r, l => ∃ d s, l = d :: s ∧ RepH wd E ρ S L h d ∧ RepHs wd E ρ S L r s
def XOk (X : XV) (wd : Wd) (E : VEnv) (ρ : Rho) (S : Sto) (x : XQ) : Prop := ∀ c fs E' wd' dfs S', X c fs E' → Inv' wd' E' ρ S' → Step wd E ρ S wd' E' ρ S' → RepF wd' S' fs dfs → x c dfs S'
section
variable {wd wd1 wd2 wd' : Wd} {E E1 E2 E' : VEnv} {ρ ρ1 ρ2 ρ' : Rho} {S S1 S2 S' : Sto} {X : XV} {xq : XQ}
theorem XOk.step (h : XOk X wd E ρ S xq) (T : Step wd E ρ S wd1 E1 ρ S1) : XOk X wd1 E1 ρ S1 xq := fun c fs E' wd' dfs S' a b t d => h c fs E' wd' dfs S' a b (T.trans t) d
theorem RepT.at_ {x : P} {n : Nat} (h : RepT wd S x (.ref n)) : ∃ o, S[n]? = some o := by
  cases x with
  | non => cases h
  | bl _ => cases h
  | int _ => cases h
  | str _ => cases h
  | tup _ => obtain ⟨_, e, _⟩ := h; cases e
  | fro _ => obtain ⟨_, e, _⟩ := h; cases e
  | lst _ => obtain ⟨_, _, e, a, _⟩ := h; cases e; exact ⟨_, a⟩
  | dct t _ =>
    obtain ⟨_, _, e, a, _⟩ := h
    cases e
    match t, a with
    | 0, ⟨_, a, _⟩ => exact ⟨_, a⟩
    | 1, ⟨_, a, _⟩ => exact ⟨_, a⟩
    | 10, ⟨_, a, _⟩ => exact ⟨_, a⟩
    | 11, ⟨_, a, _⟩ => exact ⟨_, a⟩
  | obj _ _ => obtain ⟨_, _, _, e, a, _⟩ := h; cases e; exact ⟨_, a⟩
theorem Rep.top {v : V'} {d : D} (h : Rep wd S v d) : RepT wd S v.val d := by
  cases v <;> first | exact h.1 | exact h
theorem own_at (I : Inv' wd E ρ S) {n : Nat} (h : OwnAt E ρ n) : ∃ o, S[n]? = some o := by
  obtain ⟨i, v, h1, h2, h3⟩ := h
  obtain ⟨d, e, r⟩ := I.rep i v h1
  rw [h3] at e
  cases e
  exact r.top.at_
theorem RepH.step (I : Inv' wd E ρ S) (T : Step wd E ρ S wd' E' ρ S') {L : Nat} {h : Hd} {d : D} (r : RepH wd E ρ S L h d) : RepH wd' E' ρ S' L h d := by
  match h, r with
  | .slot i, r => exact r
  | .v (.p x), r => exact r.keep (T.keep I)
  | .v (.o x), ⟨r, n, e, h0, h1, h2, h3⟩ =>
    subst e
    obtain ⟨o, ho⟩ := r.at_
    have hl := at_lt ho
    refine ⟨RepT.keepT (T.keep I) x _ r (fun o e => T.fr n o e h3 h2), n, rfl, h0, fun q => ?_, ?_, fun q => ?_⟩
    · rcases T.shn n q with z | z | z
      · exact h1 z
      · omega
      · exact h3 z
    · cases e : wd'.G n with
      | none => rfl
      | some φ =>
        rcases T.Gn n φ e with z | z
        · rw [h2] at z; cases z
        · omega
    · rcases T.own n q with z | z
      · exact h3 z
      · omega
theorem RepH.le {L L' : Nat} (hl : L' ≤ L) {h : Hd} {d : D} (r : RepH wd E ρ S L h d) : RepH wd E ρ S L' h d := by
  match h, r with
  | .slot i, r => exact r
  | .v (.p x), r => exact r
  | .v (.o x), ⟨r, n, e, h0, h1⟩ => exact ⟨r, n, e, Nat.le_trans hl h0, h1⟩
theorem RepHs.le {L L' : Nat} (hl : L' ≤ L) : ∀ {hs : List Hd} {ds : List D}, RepHs wd E ρ S L hs ds → RepHs wd E ρ S L' hs ds
  | [], _, r => r
  | h :: hs, _, r => by
    obtain ⟨d, s, rfl, r1, r2⟩ := r
    exact ⟨d, s, rfl, r1.le hl, RepHs.le hl r2⟩
theorem RepHs.step {L : Nat} (I : Inv' wd E ρ S) (T : Step wd E ρ S wd' E' ρ S') : ∀ {hs : List Hd} {ds : List D}, RepHs wd E ρ S L hs ds → RepHs wd' E' ρ S' L hs ds
  | [], _, r => r
  | h :: hs, _, r => by
    obtain ⟨d, s, rfl, r1, r2⟩ := r
    exact ⟨d, s, rfl, r1.step I T, RepHs.step I T r2⟩
theorem rd_rep {L : Nat} (I : Inv' wd E ρ S) {h : Hd} {d : D} {x : P} (r : RepH wd E ρ S L h d) (e : rd E h = some x) : RepT wd S x d := by
  match h, r, e with
  | .slot i, r, e =>
    have e : (lk E i).map V'.val = some x := e
    cases q : lk E i with
    | none => rw [q] at e; cases e
    | some v =>
      rw [q] at e
      cases e
      obtain ⟨d', e1, r1⟩ := I.rep i v q
      have r : look ρ i = some d := r
      rw [r] at e1
      cases e1
      exact r1.top
  | .v (.p y), r, e => cases e; exact r.1
  | .v (.o y), r, e => cases e; exact r.1
theorem rds_rep {L : Nat} (I : Inv' wd E ρ S) : ∀ {hs : List Hd} {ds : List D} {xs : List P}, RepHs wd E ρ S L hs ds → rds E hs = some xs → ∃ l : List (P × D), l.map (·.1) = xs ∧ l.map (·.2) = ds ∧ ∀ p ∈ l, RepT wd S p.1 p.2
  | [], _, xs, r, e => by
    cases r
    cases e
    exact ⟨[], rfl, rfl, fun p h => nomatch h⟩
  | h :: hs, _, xs, r, e => by
    obtain ⟨d, s, rfl, r1, r2⟩ := r
    unfold rds at e
    split at e
    · rename_i x ys e1 e2
      cases e
      obtain ⟨l, a, b, c⟩ := rds_rep I r2 e2
      refine ⟨(x, d) :: l, by rw [List.map_cons, a], by rw [List.map_cons, b], fun p hp => ?_⟩
      rcases List.mem_cons.mp hp with rfl | hp
      · exact rd_rep I r1 e1
      · exact c p hp
    · cases e
/-- the store has one more object -/
theorem keep_push (I : Inv' wd E ρ S) (o : O) : Keep wd S wd (S ++ [o]) := ⟨fun _ h => h, fun _ _ h => h, fun n u h e => by rw [List.getElem?_append_left (at_lt e)]; exact e⟩
theorem Rep.keep (k : Keep wd S wd' S') {v : V'} {d : D} (h : Rep wd S v d) (t : TopKeep S S' d) : Rep wd' S' v d := by
  cases v with
  | p x => exact RepP.keep k h
  | b x => exact RepT.keepT k x d h t
  | o x => exact ⟨RepT.keepT k x d h.1 t, h.2⟩
  | io x => exact ⟨RepT.keepT k x d h.1 t, h.2⟩
theorem tk_push {o : O} (d : D) : TopKeep S (S ++ [o]) d := by
  cases d <;> first | trivial | exact fun u e => by rw [List.getElem?_append_left (at_lt e)]; exact e
theorem Inv'.push (I : Inv' wd E ρ S) (o : O) : Inv' wd E ρ (S ++ [o]) where
  len := I.len
  rep := fun i v h => by
    obtain ⟨d, e, r⟩ := I.rep i v h
    exact ⟨d, e, r.keep (keep_push I o) (tk_push d)⟩
  one := I.one
  bor := I.bor
  osh := I.osh
  shl := fun n h => by
    have := I.shl n h
    rw [List.length_append]
    exact ⟨by omega, this.2⟩
  gok := fun n φ h => by
    obtain ⟨u, e, q⟩ := I.gok n φ h
    exact ⟨u, by rw [List.getElem?_append_left (at_lt e)]; exact e, q⟩
theorem Step.push (wd : Wd) (E : VEnv) (ρ : Rho) (S : Sto) (o : O) : Step wd E ρ S wd E ρ (S ++ [o]) :=
  ⟨by simp, fun _ h => h, fun _ h => .inl h, fun _ _ h => h, fun _ _ h => .inl h, fun _ h => .inl h, fun n u h _ _ => by rw [List.getElem?_append_left (at_lt h)]; exact h, fun _ _ h => ⟨h, rfl⟩, fun _ _ h => ⟨⟨_, h⟩, rfl⟩, fun i x n h e => .inl ⟨i, x, h, e⟩⟩
def Res1 (wd : Wd) (S : Sto) (v : V') (d : D) (S' : Sto) : Prop :=
  (∃ x, v = .p x ∧ S' = S ∧ RepP wd S x d) ∨ ∃ x ob, v = .o x ∧ S' = S ++ [ob] ∧ d = .ref S.length ∧ RepT wd (S ++ [ob]) x d
theorem fresh_ok (I : Inv' wd E ρ S) : ¬ wd.sh S.length ∧ wd.G S.length = none ∧ ¬ OwnAt E ρ S.length := by
  refine ⟨fun h => ?_, ?_, fun h => ?_⟩
  · have := (I.shl _ h).1
    omega
  · cases e : wd.G S.length with
    | none => rfl
    | some φ =>
      obtain ⟨o, h, _⟩ := I.gok _ _ e
      have := at_lt h
      omega
  · obtain ⟨o, e⟩ := own_at I h
    have := at_lt e
    omega
theorem Res1.fin (I : Inv' wd E ρ S) {v : V'} {d : D} (h : Res1 wd S v d S') : Inv' wd E ρ S' ∧ Step wd E ρ S wd E ρ S' ∧ RepH wd E ρ S' S.length (.v v) d := by
  rcases h with ⟨x, rfl, rfl, r⟩ | ⟨x, ob, rfl, rfl, rfl, r⟩
  · exact ⟨I, Step.refl _ _ _ _, r⟩
  · exact ⟨I.push ob, Step.push _ _ _ _ _, r, _, rfl, Nat.le_refl _, fresh_ok I⟩
theorem Res1.pas {x : P} {d : D} (h : RepP wd S x d) : Res1 wd S (.p x) d S := .inl ⟨x, rfl, rfl, h⟩
theorem Res1.newL {xs : List P} {ds : List D} (h : RepL wd S xs ds) (hk : Keep wd S wd (S ++ [.lst ds])) : Res1 wd S (.o (.lst xs)) (.ref S.length) (S ++ [.lst ds]) :=
  .inr ⟨_, _, rfl, rfl, rfl, _, ds, rfl, push_at, RepL.keep hk _ _ h⟩
theorem keepPush {wd : Wd} {S : Sto} {o : O} : Keep wd S wd (S ++ [o]) := ⟨fun _ h => h, fun _ _ h => h, fun n u h e => by rw [List.getElem?_append_left (at_lt e)]; exact e⟩
end
def SimE (w : W) (ve : VE) : Prop := ∀ (X : XV) (E : VEnv) (Qv : Hd → VEnv → Prop), ve X E Qv → ∀ (wd : Wd) (ρ : Rho) (S : Sto) (xq : XQ) (Qd : Q1), Inv' wd E ρ S →
  (∀ h E' wd' d S', Qv h E' → Inv' wd' E' ρ S' → Step wd E ρ S wd' E' ρ S' → RepH wd' E' ρ S' S.length h d → Qd d S') → XOk X wd E ρ S xq → w (xq, ρ) S Qd
def SimA (w : WA) (ve : VA) : Prop := ∀ (X : XV) (E : VEnv) (Qv : List Hd → VEnv → Prop), ve X E Qv → ∀ (wd : Wd) (ρ : Rho) (S : Sto) (xq : XQ) (Qd : List D → Sto → Prop), Inv' wd E ρ S →
  (∀ h E' wd' d S', Qv h E' → Inv' wd' E' ρ S' → Step wd E ρ S wd' E' ρ S' → RepHs wd' E' ρ S' S.length h d → Qd d S') → XOk X wd E ρ S xq → w (xq, ρ) S Qd
def SimT (w : WT) (ve : VT) : Prop := ∀ (X : XV) (E : VEnv) (Qv : Bool → VEnv → Prop), ve X E Qv → ∀ (wd : Wd) (ρ : Rho) (S : Sto) (xq : XQ) (Qd : Bool → Sto → Prop), Inv' wd E ρ S →
  (∀ b E' wd' S', Qv b E' → Inv' wd' E' ρ S' → Step wd E ρ S wd' E' ρ S' → Qd b S') → XOk X wd E ρ S xq → w (xq, ρ) S Qd
def SimO (o : OpD) (vo : VO) : Prop := ∀ wd S x y dx dy (Qv : V' → Prop) (Qd : Q1), RepT wd S x dx → RepT wd S y dy → vo x y Qv → (∀ v d S', Qv v → Res1 wd S v d S' → Qd d S') → o dx dy S Qd

/-! operators -/
def oII (g : Int → Int → Prop) (f : Int → Int → P) : VO
  | .int i, .int j, Q => g i j ∧ Q (.p (f i j))
  | _, _, _ => False
def oAdd : VO
  | .int i, .int j, Q => Q (.p (.int (i + j)))
  | .str s, .str t, Q => s.length + t.length ≤ sizeLine ∧ Q (.p (.str (s ++ t)))
  | .tup xs, .tup ys, Q => xs.length + ys.length ≤ sizeLine ∧ Q (.p (.tup (xs ++ ys)))
  | .lst xs, .lst ys, Q => xs.length + ys.length ≤ sizeLine ∧ Q (.o (.lst (xs ++ ys)))
  | _, _, _ => False
def yes2 : Int → Int → Prop := fun _ _ => True
def oSub : VO := oII yes2 fun i j => .int (i - j)
def oMul : VO := oII (fun i j => CMul i j ∨ CMulW i j) fun i j => .int (i * j)
def oDiv : VO := oII CDivW fun i j => .int (i / j)
def oMod : VO := oII (fun _ j => 0 < j) fun i j => .int (i % j)
def oPow : VO := oII CPow fun i j => .int (i ^ j.toNat)
def oShl : VO := oII CShl fun i j => .int (i * 2 ^ j.toNat)
def oShr : VO := oII (fun _ j => 0 ≤ j) fun i j => .int (i / 2 ^ j.toNat)
def oAnd : VO := oII yes2 fun i j => .int (Builtin.bitAnd i j)
def oOr : VO := oII yes2 fun i j => .int (Builtin.bitOr i j)
def oXor : VO := oII yes2 fun i j => .int (Builtin.bitXor i j)
def oCmp (f : Int → Int → Bool) : VO := oII yes2 fun i j => .bl (f i j)
section
variable {wd : Wd} {S : Sto}
theorem repT_int {i : Int} {d : D} (h : RepT wd S (.int i) d) : d = .int i := h
theorem repP_int {i : Int} : RepP wd S (.int i) (.int i) := ⟨rfl, trivial⟩
theorem repP_bl {i : Bool} : RepP wd S (.bl i) (.bl i) := ⟨rfl, trivial⟩
theorem repP_str {i : Str} : RepP wd S (.str i) (.str i) := ⟨rfl, trivial⟩
theorem repP_non : RepP wd S .non .non := ⟨rfl, trivial⟩
theorem repP_tup {xs : List P} {ds : List D} (h : RepL wd S xs ds) : RepP wd S (.tup xs) (.tup ds) := ⟨⟨ds, rfl, h⟩, trivial⟩
theorem oII_iff {g : Int → Int → Prop} {f : Int → Int → P} {x y : P} {Q : V' → Prop} (h : oII g f x y Q) : ∃ i j, x = .int i ∧ y = .int j ∧ g i j ∧ Q (.p (f i j)) := by
  cases x <;> first | exact h.elim | (cases y <;> first | exact h.elim | exact ⟨_, _, rfl, rfl, h.1, h.2⟩)
end
theorem sim_oII {o : OpD} {g : Int → Int → Prop} {f : Int → Int → P} {f' : Int → Int → D} (hf : ∀ i j wd S, RepP wd S (f i j) (f' i j)) (ho : ∀ i j S Q, g i j → Q (f' i j) S → o (.int i) (.int j) S Q) : SimO o (oII g f) := fun wd S x y dx dy Qv Qd rx ry q k => by
  obtain ⟨i, j, rfl, rfl, h1, h2⟩ := oII_iff q
  cases repT_int rx
  cases repT_int ry
  exact ho i j S Qd h1 (k _ _ _ h2 (Res1.pas (hf i j wd S)))
theorem sim_add : SimO opAdd oAdd := fun wd S x y dx dy Qv Qd rx ry q k => by
  cases x <;> try exact q.elim
  · cases y <;> try exact q.elim
    cases repT_int rx
    cases repT_int ry
    exact k _ _ _ q (Res1.pas repP_int)
  · cases y <;> try exact q.elim
    cases (show dx = _ from rx)
    cases (show dy = _ from ry)
    exact ⟨q.1, k _ _ _ q.2 (Res1.pas repP_str)⟩
  · cases y <;> try exact q.elim
    obtain ⟨ds, rfl, r1⟩ := rx
    obtain ⟨es, rfl, r2⟩ := ry
    exact ⟨by rw [← r1.length, ← r2.length]; exact q.1, k _ _ _ q.2 (Res1.pas (repP_tup (r1.app r2)))⟩
  · cases y <;> try exact q.elim
    obtain ⟨n, ds, rfl, e1, r1⟩ := rx
    obtain ⟨m, es, rfl, e2, r2⟩ := ry
    exact ⟨ds, es, e1, e2, by rw [← r1.length, ← r2.length]; exact q.1, k _ _ _ q.2 (Res1.newL (r1.app r2) keepPush)⟩
theorem sim_sub : SimO opSub oSub := sim_oII (f' := fun i j => .int (i - j)) (fun _ _ _ _ => repP_int) fun i j S Q _ q => q
theorem sim_mul : SimO opMul oMul := sim_oII (f' := fun i j => .int (i * j)) (fun _ _ _ _ => repP_int) fun i j S Q g q => ⟨g, q⟩
theorem sim_div : SimO opDiv oDiv := sim_oII (f' := fun i j => .int (i / j)) (fun _ _ _ _ => repP_int) fun i j S Q g q => ⟨g, q⟩
theorem sim_mod : SimO opMod oMod := sim_oII (f' := fun i j => .int (i % j)) (fun _ _ _ _ => repP_int) fun i j S Q g q => ⟨g, q⟩
theorem sim_pow : SimO opPow oPow := sim_oII (f' := fun i j => .int (i ^ j.toNat)) (fun _ _ _ _ => repP_int) fun i j S Q g q => ⟨g, q⟩
theorem sim_shl : SimO opShl oShl := sim_oII (f' := fun i j => .int (i * 2 ^ j.toNat)) (fun _ _ _ _ => repP_int) fun i j S Q g q => ⟨g, q⟩
theorem sim_shr : SimO opShr oShr := sim_oII (f' := fun i j => .int (i / 2 ^ j.toNat)) (fun _ _ _ _ => repP_int) fun i j S Q g q => ⟨g, q⟩
theorem sim_and : SimO opAnd oAnd := sim_oII (f' := fun i j => .int (Builtin.bitAnd i j)) (fun _ _ _ _ => repP_int) fun i j S Q _ q => q
theorem sim_or : SimO opOr oOr := sim_oII (f' := fun i j => .int (Builtin.bitOr i j)) (fun _ _ _ _ => repP_int) fun i j S Q _ q => q
theorem sim_xor : SimO opXor oXor := sim_oII (f' := fun i j => .int (Builtin.bitXor i j)) (fun _ _ _ _ => repP_int) fun i j S Q _ q => q
theorem sim_lt : SimO (cmpD .Lt) (oCmp fun i j => decide (i < j)) := sim_oII (f' := fun i j => .bl (decide (i < j))) (fun _ _ _ _ => repP_bl) fun i j S Q _ q => q
theorem sim_le : SimO (cmpD .LtE) (oCmp fun i j => decide (i ≤ j)) := sim_oII (f' := fun i j => .bl (decide (i ≤ j))) (fun _ _ _ _ => repP_bl) fun i j S Q _ q => q
theorem sim_gt : SimO (cmpD .Gt) (oCmp fun i j => decide (j < i)) := sim_oII (f' := fun i j => .bl (decide (j < i))) (fun _ _ _ _ => repP_bl) fun i j S Q _ q => q
theorem sim_ge : SimO (cmpD .GtE) (oCmp fun i j => decide (j ≤ i)) := sim_oII (f' := fun i j => .bl (decide (j ≤ i))) (fun _ _ _ _ => repP_bl) fun i j S Q _ q => q

/-! equality, membership -/
def scalP : P → P → Option Bool
  | .non, .non => some true
  | .int i, .int j => some (decide (i = j))
  | .bl i, .bl j => some (decide (i = j))
  | .str i, .str j => some (decide (i = j))
  | .non, .int _ => some false
  | .int _, .non => some false
  | .non, .bl _ => some false
  | .bl _, .non => some false
  | .non, .str _ => some false
  | .str _, .non => some false
  | .int _, .str _ => some false
  | .str _, .int _ => some false
  | _, _ => none
mutual
def toPy : P → Option PyData
  | .non => some .none
  | .bl b => some (.bool b)
  | .int i => some (.int i)
  | .str s => some (.str s)
  | .tup xs => (toPys xs).map .tuple
  | .fro xs => (toPys xs).map .list
  | .lst xs => (toPys xs).map .list
  | .dct _ _ => none
  | .obj _ _ => none
def toPys : List P → Option (List PyData)
  | [] => some []
  | x :: r => match toPy x, toPys r with
    | some p, some ps => some (p :: ps)
    | _, _ => none
end
section
variable {wd : Wd} {S : Sto}
mutual
theorem toPy_dp : ∀ (x : P) (d : D) (p : PyData), RepT wd S x d → toPy x = some p → DpD S d p
  | .non, _, _, r, e => by cases (show _ = D.non from r); cases e; exact .non
  | .bl _, _, _, r, e => by cases (show _ = D.bl _ from r); cases e; exact .bl _
  | .int _, _, _, r, e => by cases (show _ = D.int _ from r); cases e; exact .int _
  | .str _, _, _, r, e => by cases (show _ = D.str _ from r); cases e; exact .str _
  | .tup xs, _, _, r, e => by
    obtain ⟨ds, rfl, h⟩ := r
    unfold toPy at e
    cases q : toPys xs with
    | none => rw [q] at e; cases e
    | some ps => rw [q] at e; cases e; exact .tup (toPys_dp xs ds ps h q)
  | .fro xs, _, _, r, e => by
    obtain ⟨ds, rfl, h⟩ := r
    unfold toPy at e
    cases q : toPys xs with
    | none => rw [q] at e; cases e
    | some ps => rw [q] at e; cases e; exact .fro (toPys_dp xs ds ps h q)
  | .lst xs, _, _, r, e => by
    obtain ⟨n, ds, rfl, h0, h⟩ := r
    unfold toPy at e
    cases q : toPys xs with
    | none => rw [q] at e; cases e
    | some ps => rw [q] at e; cases e; exact .lst h0 (toPys_dp xs ds ps h q)
  | .dct _ _, _, _, _, e => by cases e
  | .obj _ _, _, _, _, e => by cases e
theorem toPys_dp : ∀ (xs : List P) (ds : List D) (ps : List PyData), RepL wd S xs ds → toPys xs = some ps → DpAllD S ds ps
  | [], _, _, r, e => by cases r; cases e; exact .nil
  | x :: r, _, _, h, e => by
    obtain ⟨d, s, rfl, h1, _, h3⟩ := h
    unfold toPys at e
    split at e
    · rename_i p ps e1 e2
      cases e
      exact .cons (toPy_dp x d p h1 e1) (toPys_dp r s ps h3 e2)
    · cases e
end
end
def oEq (neg : Bool) : VO := fun x y Q => match scalP x y with
  | some b => Q (.p (.bl (sg neg b)))
  | none => ∃ p q, toPy x = some p ∧ toPy y = some q ∧ SeqAt.shaped p = true ∧ SeqAt.shaped q = true ∧ Q (.p (.bl (sg neg (PyData.eqv p q))))
theorem scal_eq {wd : Wd} {S : Sto} {x y : P} {dx dy : D} (rx : RepT wd S x dx) (ry : RepT wd S y dy) : scalD dx dy = scalP x y := by
  have key : ∀ (x : P) (d : D), RepT wd S x d → (x = .non ∧ d = .non) ∨ (∃ b, x = .bl b ∧ d = .bl b) ∨ (∃ b, x = .int b ∧ d = .int b) ∨ (∃ b, x = .str b ∧ d = .str b) ∨ ((∀ y, scalP x y = none ∧ scalP y x = none) ∧ ∀ y, scalD d y = none ∧ scalD y d = none) := by
    intro x d r
    cases x with
    | non => exact .inl ⟨rfl, r⟩
    | bl b => exact .inr (.inl ⟨b, rfl, r⟩)
    | int b => exact .inr (.inr (.inl ⟨b, rfl, r⟩))
    | str b => exact .inr (.inr (.inr (.inl ⟨b, rfl, r⟩)))
    | tup xs =>
      obtain ⟨ds, rfl, _⟩ := r
      exact .inr (.inr (.inr (.inr ⟨fun y => ⟨by cases y <;> rfl, by cases y <;> rfl⟩, fun y => ⟨by cases y <;> rfl, by cases y <;> rfl⟩⟩)))
    | fro xs =>
      obtain ⟨ds, rfl, _⟩ := r
      exact .inr (.inr (.inr (.inr ⟨fun y => ⟨by cases y <;> rfl, by cases y <;> rfl⟩, fun y => ⟨by cases y <;> rfl, by cases y <;> rfl⟩⟩)))
    | lst xs =>
      obtain ⟨n, ds, rfl, _⟩ := r
      exact .inr (.inr (.inr (.inr ⟨fun y => ⟨by cases y <;> rfl, by cases y <;> rfl⟩, fun y => ⟨by cases y <;> rfl, by cases y <;> rfl⟩⟩)))
    | dct t xs =>
      obtain ⟨n, ds, rfl, _⟩ := r
      exact .inr (.inr (.inr (.inr ⟨fun y => ⟨by cases y <;> rfl, by cases y <;> rfl⟩, fun y => ⟨by cases y <;> rfl, by cases y <;> rfl⟩⟩)))
    | obj c xs =>
      obtain ⟨n, ds, mem, rfl, _⟩ := r
      exact .inr (.inr (.inr (.inr ⟨fun y => ⟨by cases y <;> rfl, by cases y <;> rfl⟩, fun y => ⟨by cases y <;> rfl, by cases y <;> rfl⟩⟩)))
  rcases key x dx rx with ⟨rfl, rfl⟩ | ⟨_, rfl, rfl⟩ | ⟨_, rfl, rfl⟩ | ⟨_, rfl, rfl⟩ | ⟨h1, h2⟩
  all_goals first
    | rw [(h1 y).1, (h2 dy).1]
    | (rcases key y dy ry with ⟨rfl, rfl⟩ | ⟨_, rfl, rfl⟩ | ⟨_, rfl, rfl⟩ | ⟨_, rfl, rfl⟩ | ⟨h1, h2⟩
       all_goals first | rfl | rw [(h1 _).2, (h2 _).2])
theorem sim_eq (neg : Bool) : SimO (cmpEq neg) (oEq neg) := fun wd S x y dx dy Qv Qd rx ry q k => by
  unfold cmpEq
  unfold oEq at q
  rw [scal_eq rx ry]
  cases e : scalP x y with
  | some b =>
    rw [e] at q
    exact k _ _ _ q (Res1.pas repP_bl)
  | none =>
    rw [e] at q
    obtain ⟨p, q', h1, h2, h3, h4, q⟩ := q
    exact ⟨p, q', toPy_dp _ _ _ rx h1, toPy_dp _ _ _ ry h2, h3, h4, k _ _ _ q (Res1.pas repP_bl)⟩
def flatP : P → Bool
  | .non => true
  | .bl _ => true
  | .int _ => true
  | .str _ => true
  | _ => false
def eqFP : P → P → Bool
  | .non, .non => true
  | .bl a, .bl b => a == b
  | .bl a, .int b => (if a then 1 else 0) == b
  | .int a, .bl b => a == (if b then 1 else 0)
  | .int a, .int b => a == b
  | .str a, .str b => a == b
  | _, _ => false
def inFP (x : P) (xs : List P) : Bool := xs.any fun y => eqFP y x
noncomputable def getP (kvs : List (P × P)) (k : P) : Option P := (kvs.find? fun kv => decide (kv.1 = k)).map (·.2)
/-- what may be a key of a dict of this kind -/
def KeyOk : Nat → P → Prop
  | 0, x => ∃ k, x = kP k
  | 1, x => ∃ ks : List Key, x = .tup (ks.map kP)
  | 10, x => ∃ k, x = kP k
  | 11, x => ∃ ks : List Key, x = .tup (ks.map kP)
  | _, _ => False
def oIn (neg : Bool) : VO
  | x, .tup ys, Q => flatP x = true ∧ ys.all flatP = true ∧ Q (.p (.bl (sg neg (inFP x ys))))
  | x, .lst ys, Q => (flatP x = true ∧ ys.all flatP = true ∧ Q (.p (.bl (sg neg (inFP x ys))))) ∨
    ∃ p ps, toPy x = some p ∧ toPys ys = some ps ∧ SeqAt.shaped p = true ∧ SeqAt.shaped (.list ps) = true ∧ Q (.p (.bl (sg neg (ps.any fun z => PyData.eqv z p))))
  | x, .dct t kvs, Q => KeyOk t x ∧ Q (.p (.bl (sg neg (getP kvs x).isSome)))
  | _, _, _ => False
section
variable {wd : Wd} {S : Sto}
theorem flat_rep {x : P} {d : D} (h : flatP x = true) (r : RepT wd S x d) : flatD d = true := by
  cases x <;> first | (cases h; done) | (cases (show d = _ from r); rfl)
theorem eqF_rep {x y : P} {dx dy : D} (hx : flatP x = true) (hy : flatP y = true) (rx : RepT wd S x dx) (ry : RepT wd S y dy) : eqF dx dy = eqFP x y := by
  cases x <;> first | (cases hx; done) | (cases (show dx = _ from rx); cases y <;> first | (cases hy; done) | (cases (show dy = _ from ry); rfl))
theorem flats_rep : ∀ {ys : List P} {ds : List D}, RepL wd S ys ds → ys.all flatP = true → ds.all flatD = true
  | [], _, r, _ => by cases r; rfl
  | y :: ys, _, r, h => by
    obtain ⟨d, s, rfl, r1, _, r2⟩ := r
    rw [List.all_cons, Bool.and_eq_true_iff] at h
    rw [List.all_cons, flat_rep h.1 r1, flats_rep r2 h.2]
    rfl
theorem inF_rep {x : P} {dx : D} (hx : flatP x = true) (rx : RepT wd S x dx) : ∀ {ys : List P} {ds : List D}, RepL wd S ys ds → ys.all flatP = true → inF dx ds = inFP x ys
  | [], _, r, _ => by cases r; rfl
  | y :: ys, _, r, h => by
    obtain ⟨d, s, rfl, r1, _, r2⟩ := r
    rw [List.all_cons, Bool.and_eq_true_iff] at h
    unfold inF inFP
    rw [List.any_cons, List.any_cons, eqF_rep h.1 hx r1 rx]
    congr 1
    exact inF_rep hx rx r2 h.2
theorem kP_inj {a b : Key} (h : kP a = kP b) : a = b := by
  cases a <;> cases b <;> cases h <;> rfl
theorem kPs_inj : ∀ {a b : List Key}, a.map kP = b.map kP → a = b
  | [], [], _ => rfl
  | [], _ :: _, h => by cases h
  | _ :: _, [], h => by cases h
  | x :: a, y :: b, h => by
    rw [List.map_cons, List.map_cons] at h
    injection h with h1 h2
    rw [kP_inj h1, kPs_inj h2]
theorem keyD_kP {k : Key} {d : D} (r : RepT wd S (kP k) d) : keyD d = some k := by
  cases k <;> (cases (show d = _ from r); rfl)
theorem keysD_kP : ∀ {ks : List Key} {ds : List D}, RepL wd S (ks.map kP) ds → keysD ds = some ks
  | [], _, r => by cases r; rfl
  | k :: ks, _, r => by
    obtain ⟨d, s, rfl, r1, _, r2⟩ := r
    unfold keysD
    rw [keyD_kP r1, keysD_kP r2]
/-- what the dict holds at a key, told -/
theorem get_rep {κ : Type} [DecidableEq κ] {f : κ → P} (inj : ∀ a b, f a = f b → a = b) {k : κ} : ∀ {kvs : List (P × P)} {kds : List (κ × D)}, RepK wd S kvs (kds.map (·.2)) → kds.map (fun kv => f kv.1) = kvs.map (·.1) →
    (getA kds k = none ∧ getP kvs (f k) = none) ∨ ∃ d x, getA kds k = some d ∧ getP kvs (f k) = some x ∧ RepP wd S x d
  | [], kds, r, e => by
    cases kds with
    | nil => exact .inl ⟨rfl, rfl⟩
    | cons a b => cases e
  | kv :: kvs, kds, r, e => by
    cases kds with
    | nil => cases e
    | cons a b =>
      obtain ⟨d, s, e1, r1, r2, r3⟩ := r
      rw [List.map_cons] at e1
      injection e1 with e1 e2
      subst e2
      rw [List.map_cons, List.map_cons] at e
      injection e with e3 e4
      unfold getA getP
      rw [List.find?_cons, List.find?_cons]
      by_cases h : a.1 = k
      · have h' : kv.1 = f k := by rw [← e3, h]
        rw [decide_eq_true h, decide_eq_true h']
        exact .inr ⟨a.2, kv.2, rfl, rfl, by rw [e1]; exact ⟨r1, r2⟩⟩
      · have h' : ¬ kv.1 = f k := fun z => h (inj _ _ (e3.trans z))
        rw [decide_eq_false h, decide_eq_false h']
        exact get_rep inj r3 e4
theorem dGet_rep {n t : Nat} {kvs : List (P × P)} {ds : List D} {y : P} {dy : D} {Q : Option D → Prop} (h : DctAt S n (kvs.map (·.1)) ds t) (r : RepK wd S kvs ds) (hk : KeyOk t y) (ry : RepT wd S y dy)
    (q : ∀ o, ((o = none ∧ getP kvs y = none) ∨ ∃ d x, o = some d ∧ getP kvs y = some x ∧ RepP wd S x d) → Q o) : dGet n dy S Q := by
  match t, h, hk with
  | 0, ⟨kds, e1, e2, e3⟩, ⟨k, e4⟩ =>
    subst e2 e4
    exact .inl ⟨false, kds, k, e1, keyD_kP ry, q _ (by
      rcases get_rep (fun a b => kP_inj) (k := k) r e3 with h | ⟨d, x, h⟩
      · exact .inl h
      · exact .inr ⟨d, x, h⟩)⟩
  | 1, ⟨kds, e1, e2, e3⟩, ⟨ks, e4⟩ =>
    subst e2 e4
    obtain ⟨ds, rfl, rr⟩ := ry
    exact .inr ⟨false, kds, ks, e1, keysD_kP rr, q _ (by
      rcases get_rep (f := fun ks => P.tup (ks.map kP)) (fun a b z => kPs_inj (by injection z)) (k := ks) r e3 with h | ⟨d, x, h⟩
      · exact .inl h
      · exact .inr ⟨d, x, h⟩)⟩
  | 10, ⟨kds, e1, e2, e3⟩, ⟨k, e4⟩ =>
    subst e2 e4
    exact .inl ⟨true, kds, k, e1, keyD_kP ry, q _ (by
      rcases get_rep (fun a b => kP_inj) (k := k) r e3 with h | ⟨d, x, h⟩
      · exact .inl h
      · exact .inr ⟨d, x, h⟩)⟩
  | 11, ⟨kds, e1, e2, e3⟩, ⟨ks, e4⟩ =>
    subst e2 e4
    obtain ⟨ds, rfl, rr⟩ := ry
    exact .inr ⟨true, kds, ks, e1, keysD_kP rr, q _ (by
      rcases get_rep (f := fun ks => P.tup (ks.map kP)) (fun a b z => kPs_inj (by injection z)) (k := ks) r e3 with h | ⟨d, x, h⟩
      · exact .inl h
      · exact .inr ⟨d, x, h⟩)⟩
end
theorem sim_in (neg : Bool) : SimO (cmpIn neg) (oIn neg) := fun wd S x y dx dy Qv Qd rx ry q k => by
  cases y <;> try (cases x <;> exact q.elim)
  · rename_i ys
    obtain ⟨ds, rfl, r⟩ := ry
    have q : flatP x = true ∧ ys.all flatP = true ∧ Qv (.p (.bl (sg neg (inFP x ys)))) := by cases x <;> exact q
    obtain ⟨q1, q2, q3⟩ := q
    have : flatD dx = true ∧ ds.all flatD = true ∧ Qd (.bl (sg neg (inF dx ds))) S := ⟨flat_rep q1 rx, flats_rep r q2, by rw [inF_rep q1 rx r q2]; exact k _ _ _ q3 (Res1.pas repP_bl)⟩
    cases dx <;> exact this
  · rename_i ys
    obtain ⟨n, ds, rfl, e, r⟩ := ry
    have q : (flatP x = true ∧ ys.all flatP = true ∧ Qv (.p (.bl (sg neg (inFP x ys))))) ∨ ∃ p ps, toPy x = some p ∧ toPys ys = some ps ∧ SeqAt.shaped p = true ∧ SeqAt.shaped (.list ps) = true ∧ Qv (.p (.bl (sg neg (ps.any fun z => PyData.eqv z p)))) := by cases x <;> exact q
    have : (∃ ds, S[n]? = some (.lst ds) ∧ flatD dx = true ∧ ds.all flatD = true ∧ Qd (.bl (sg neg (inF dx ds))) S) ∨
        (∃ p ps, DpD S dx p ∧ DpD S (.ref n) (.list ps) ∧ SeqAt.shaped p = true ∧ SeqAt.shaped (.list ps) = true ∧ Qd (.bl (sg neg (ps.any fun z => PyData.eqv z p))) S) ∨ dGet n dx S fun o => Qd (.bl (sg neg o.isSome)) S := by
      rcases q with ⟨q1, q2, q3⟩ | ⟨p, ps, h1, h2, h3, h4, q⟩
      · exact .inl ⟨ds, e, flat_rep q1 rx, flats_rep r q2, by rw [inF_rep q1 rx r q2]; exact k _ _ _ q3 (Res1.pas repP_bl)⟩
      · exact .inr (.inl ⟨p, ps, toPy_dp _ _ _ rx h1, .lst e (toPys_dp _ _ _ r h2), h3, h4, k _ _ _ q (Res1.pas repP_bl)⟩)
    cases dx <;> exact this
  · rename_i t kvs
    obtain ⟨n, ds, rfl, e, r⟩ := ry
    have q : KeyOk t x ∧ Qv (.p (.bl (sg neg (getP kvs x).isSome))) := by cases x <;> exact q
    have : (∃ ds, S[n]? = some (.lst ds) ∧ flatD dx = true ∧ ds.all flatD = true ∧ Qd (.bl (sg neg (inF dx ds))) S) ∨
        (∃ p ps, DpD S dx p ∧ DpD S (.ref n) (.list ps) ∧ SeqAt.shaped p = true ∧ SeqAt.shaped (.list ps) = true ∧ Qd (.bl (sg neg (ps.any fun z => PyData.eqv z p))) S) ∨ dGet n dx S fun o => Qd (.bl (sg neg o.isSome)) S := by
      refine .inr (.inr (dGet_rep e r q.1 rx fun o ho => ?_))
      refine k _ _ _ ?_ (Res1.pas (x := .bl (sg neg o.isSome)) repP_bl)
      rcases ho with ⟨rfl, z⟩ | ⟨d, y, rfl, z, _⟩
      · rw [z] at q; exact q.2
      · rw [z] at q; exact q.2
    cases dx <;> exact this
def isNonP : P → Bool
  | .non => true
  | _ => false
def oIs (neg : Bool) : VO
  | x, .non, Q => Q (.p (.bl (sg neg (isNonP x))))
  | _, _, _ => False
theorem isNon_rep {wd : Wd} {S : Sto} {x : P} {d : D} (r : RepT wd S x d) : isNon d = isNonP x := by
  cases x <;> first
    | (cases (show d = _ from r); rfl)
    | (obtain ⟨_, rfl, _⟩ := r; rfl)
    | (obtain ⟨_, _, rfl, _⟩ := r; rfl)
    | (obtain ⟨_, _, _, rfl, _⟩ := r; rfl)
theorem sim_is (neg : Bool) : SimO (cmpIs neg) (oIs neg) := fun wd S x y dx dy Qv Qd rx ry q k => by
  cases y <;> try (cases x <;> exact q.elim)
  cases (show dy = _ from ry)
  have q : Qv (.p (.bl (sg neg (isNonP x)))) := by cases x <;> exact q
  have : Qd (.bl (sg neg (isNon dx))) S := k _ _ _ q (Res1.pas (by rw [isNon_rep rx]; exact repP_bl))
  cases dx <;> exact this
/-- a subscript -/
def oIdx : VO
  | .tup xs, .int i, Q => gv (atI xs i) fun x => Q (.p x)
  | .fro xs, .int i, Q => gv (atI xs i) fun x => Q (.p x)
  | .lst xs, .int i, Q => gv (atI xs i) fun x => Q (.p x)
  | .str z, .int i, Q => z.length ≤ sizeLine ∧ gv (atI z.cps.toList i) fun c => Q (.p (.str ⟨#[c]⟩))
  | .dct t kvs, y, Q => KeyOk t y ∧ gv (getP kvs y) fun x => Q (.p x)
  | _, _, _ => False
theorem atI_rep {wd : Wd} {S : Sto} {xs : List P} {ds : List D} {i : Int} {x : P} (r : RepL wd S xs ds) (e : atI xs i = some x) : ∃ d, atI ds i = some d ∧ RepP wd S x d := by
  unfold atI at e ⊢
  rw [← r.length]
  cases q : ixN xs.length i with
  | none => rw [q] at e; simp at e
  | some j =>
    rw [q] at e
    simp only [Option.bind_some] at e ⊢
    exact r.get e
theorem sim_idx : SimO idxD oIdx := fun wd S x y dx dy Qv Qd rx ry q k => by
  cases x <;> try (cases y <;> exact q.elim)
  · rename_i z
    cases y <;> try exact q.elim
    cases (show dx = _ from rx)
    cases (show dy = _ from ry)
    obtain ⟨h, q⟩ := q
    obtain ⟨c, e, q⟩ := gv_iff.mp q
    exact ⟨h, gv_iff.mpr ⟨c, e, k _ _ _ q (Res1.pas repP_str)⟩⟩
  · cases y <;> try exact q.elim
    obtain ⟨ds, rfl, r⟩ := rx
    cases (show dy = _ from ry)
    obtain ⟨x, e, q⟩ := gv_iff.mp q
    obtain ⟨d, e1, r1⟩ := atI_rep r e
    exact gv_iff.mpr ⟨d, e1, k _ _ _ q (Res1.pas r1)⟩
  · cases y <;> try exact q.elim
    obtain ⟨ds, rfl, r⟩ := rx
    cases (show dy = _ from ry)
    obtain ⟨x, e, q⟩ := gv_iff.mp q
    obtain ⟨d, e1, r1⟩ := atI_rep r e
    exact gv_iff.mpr ⟨d, e1, k _ _ _ q (Res1.pas r1)⟩
  · cases y <;> try exact q.elim
    obtain ⟨n, ds, rfl, h, r⟩ := rx
    cases (show dy = _ from ry)
    obtain ⟨x, e, q⟩ := gv_iff.mp q
    obtain ⟨d, e1, r1⟩ := atI_rep r e
    exact .inl ⟨ds, _, rfl, h, gv_iff.mpr ⟨d, e1, k _ _ _ q (Res1.pas r1)⟩⟩
  · rename_i t kvs
    obtain ⟨n, ds, rfl, h, r⟩ := rx
    have q : KeyOk t y ∧ gv (getP kvs y) fun x => Qv (.p x) := by cases y <;> exact q
    obtain ⟨h1, q⟩ := q
    obtain ⟨x, e, q⟩ := gv_iff.mp q
    have : (∃ ds i, dy = .int i ∧ S[n]? = some (.lst ds) ∧ gv (atI ds i) fun d => Qd d S) ∨ dGet n dy S fun o => gv o fun d => Qd d S := by
      refine .inr (dGet_rep h r h1 ry fun o ho => ?_)
      rcases ho with ⟨rfl, z⟩ | ⟨d, y, rfl, z, r⟩
      · rw [e] at z; cases z
      · rw [e] at z
        cases z
        exact k _ _ _ q (Res1.pas r)
    cases dy <;> exact this
/-- a slice -/
def cutP (xs : List P) (lo hi : Option Int) : List P := (xs.drop (HT.sIx xs.length 0 lo)).take (HT.sIx xs.length xs.length hi - HT.sIx xs.length 0 lo)
def oSlc : P → Option Int → Option Int → (V' → Prop) → Prop
  | .tup xs, lo, hi, Q => Q (.p (.tup (cutP xs lo hi)))
  | .fro xs, lo, hi, Q => Q (.o (.lst (cutP xs lo hi)))
  | .lst xs, lo, hi, Q => Q (.o (.lst (cutP xs lo hi)))
  | .str z, lo, hi, Q => z.length ≤ sizeLine ∧ Q (.p (.str (cutS z lo hi)))
  | _, _, _, _ => False
theorem cut_rep {wd : Wd} {S : Sto} {xs : List P} {ds : List D} {lo hi : Option Int} (r : RepL wd S xs ds) : RepL wd S (cutP xs lo hi) (cutD ds lo hi) := by
  unfold cutP cutD
  rw [r.length]
  exact (r.drop _).take _
theorem sim_slc {wd : Wd} {S : Sto} {x : P} {dx : D} {lo hi : Option Int} {Qv : V' → Prop} {Qd : Q1} (rx : RepT wd S x dx) (q : oSlc x lo hi Qv) (k : ∀ v d S', Qv v → Res1 wd S v d S' → Qd d S') : slcD dx lo hi S Qd := by
  cases x <;> try exact q.elim
  · cases (show dx = _ from rx)
    exact ⟨q.1, k _ _ _ q.2 (Res1.pas repP_str)⟩
  · obtain ⟨ds, rfl, r⟩ := rx
    exact k _ _ _ q (Res1.pas (repP_tup (cut_rep r)))
  · obtain ⟨ds, rfl, r⟩ := rx
    exact k _ _ _ q (Res1.newL (cut_rep r) keepPush)
  · obtain ⟨n, ds, rfl, h, r⟩ := rx
    exact ⟨ds, h, k _ _ _ q (Res1.newL (cut_rep r) keepPush)⟩
def truP : P → (Bool → Prop) → Prop
  | .non, Q => Q false
  | .bl b, Q => Q b
  | .int i, Q => Q (i != 0)
  | .str s, Q => s.length ≤ sizeLine ∧ Q ((s.length : Int) != 0)
  | .tup xs, Q => Q (!xs.isEmpty)
  | .fro xs, Q => Q (!xs.isEmpty)
  | .lst xs, Q => Q (!xs.isEmpty)
  | .dct 0 kvs, Q => Q (!kvs.isEmpty)
  | _, _ => False
theorem RepL.empty {wd : Wd} {S : Sto} {xs : List P} {ds : List D} (r : RepL wd S xs ds) : ds.isEmpty = xs.isEmpty := by
  cases xs with
  | nil => cases r; rfl
  | cons x xs => obtain ⟨_, _, rfl, _⟩ := r; rfl
theorem RepK.length {wd : Wd} {S : Sto} : ∀ {xs : List (P × P)} {ds : List D}, RepK wd S xs ds → xs.length = ds.length
  | [], _, h => by cases h; rfl
  | x :: r, _, h => by
    obtain ⟨d, s, rfl, _, _, h3⟩ := h
    rw [List.length_cons, List.length_cons, RepK.length h3]
theorem sim_tru {wd : Wd} {S : Sto} {x : P} {dx : D} {Q : Bool → Prop} (rx : RepT wd S x dx) (q : truP x Q) : truD dx S Q := by
  cases x <;> try exact q.elim
  · cases (show dx = _ from rx); exact q
  · cases (show dx = _ from rx); exact q
  · cases (show dx = _ from rx); exact q
  · cases (show dx = _ from rx); exact q
  · obtain ⟨ds, rfl, r⟩ := rx
    show Q (!ds.isEmpty)
    rw [r.empty]
    exact q
  · obtain ⟨ds, rfl, r⟩ := rx
    show Q (!ds.isEmpty)
    rw [r.empty]
    exact q
  · obtain ⟨n, ds, rfl, h, r⟩ := rx
    exact .inl ⟨ds, h, by rw [r.empty]; exact q⟩
  · rename_i t kvs
    obtain ⟨n, ds, rfl, h, r⟩ := rx
    match t, h, q with
    | 0, ⟨kds, h, e2, _⟩, q =>
      refine .inr ⟨kds, h, ?_⟩
      have hl := r.length
      rw [← e2, List.length_map] at hl
      have : kds.isEmpty = kvs.isEmpty := by
        cases kds <;> cases kvs <;> first | rfl | (simp at hl; done)
      rw [this]
      exact q
end WW


set_option Elab.async false
set_option linter.all false
set_option maxRecDepth 100000
set_option maxHeartbeats 4000000
set_option autoImplicit false
namespace WW
open PySem PySem.Spec PyProof.Rows L2

/-! ### what is kept for good: owned things turn passive -/
def take1 (E : VEnv) : Hd → Option (P × VEnv)
  | .slot i => match lk E i with
    | some (.p x) => some (x, E)
    | some (.o x) => some (x, pt E i (some (.p x)))
    | _ => none
  | .v (.p x) => some (x, E)
  | .v (.o x) => some (x, E)
  | _ => none
def takeL (E : VEnv) : List Hd → Option (List P × VEnv)
  | [] => some ([], E)
  | h :: r => match take1 E h with
    | some (x, E1) => match takeL E1 r with
      | some (xs, E2) => some (x :: xs, E2)
      | none => none
    | none => none
/-- some owned slots turned passive -/
def Frz (E E' : VEnv) : Prop := E'.length = E.length ∧ ∀ i, lk E' i = lk E i ∨ ∃ x, lk E i = some (.o x) ∧ lk E' i = some (.p x)
def Wd.add (wd : Wd) (A : Nat → Prop) : Wd := ⟨fun n => wd.sh n ∨ A n, wd.G⟩
section
variable {wd wd0 wd1 wd2 wd' : Wd} {E E0 E1 E2 E' : VEnv} {ρ ρ0 ρ1 ρ2 ρ' : Rho} {S S0 S1 S2 S' : Sto} {X : XV} {xq : XQ} {L : Nat}
theorem Frz.refl (E : VEnv) : Frz E E := ⟨rfl, fun _ => .inl rfl⟩
theorem Frz.trans (a : Frz E E1) (b : Frz E1 E2) : Frz E E2 := ⟨b.1.trans a.1, fun i => by
  rcases a.2 i with h | ⟨x, h1, h2⟩
  · rcases b.2 i with g | ⟨y, g1, g2⟩
    · exact .inl (g.trans h)
    · exact .inr ⟨y, by rw [← h]; exact g1, g2⟩
  · rcases b.2 i with g | ⟨y, g1, g2⟩
    · exact .inr ⟨x, h1, by rw [g]; exact h2⟩
    · rw [h2] at g1; cases g1⟩
theorem Frz.set {i : Nat} {x : P} (h : lk E i = some (.o x)) : Frz E (pt E i (some (.p x))) := ⟨pt_len _ _ _, fun j => by
  rw [lk_pt]
  by_cases e : i = j
  · subst e
    rw [if_pos ⟨rfl, lk_lt h⟩]
    exact .inr ⟨x, h, rfl⟩
  · rw [if_neg (fun z => e z.1)]
    exact .inl rfl⟩
theorem Frz.own (f : Frz E E') {ρ : Rho} {n : Nat} (h : OwnAt E' ρ n) : OwnAt E ρ n := by
  obtain ⟨i, v, h1, h2, h3⟩ := h
  rcases f.2 i with g | ⟨x, g1, g2⟩
  · exact ⟨i, v, by rw [← g]; exact h1, h2, h3⟩
  · rw [g2] at h1; cases h1; cases h2
theorem keep_add {A : Nat → Prop} : Keep wd S (wd.add A) S := ⟨fun _ h => .inl h, fun _ _ h => h, fun _ _ _ e => e⟩
theorem tk_refl (d : D) : TopKeep S S d := by
  cases d <;> first | trivial | exact fun _ e => e
/-- owned slots turn passive; so do fresh things that nobody owns -/
theorem freeze (I : Inv' wd E ρ S) (T : Step wd0 E0 ρ0 S0 wd E ρ S) (F : Frz E E') (A : Nat → Prop)
    (hA : ∀ n, A n → wd.sh n ∨ (∃ i x, lk E i = some (.o x) ∧ look ρ i = some (.ref n) ∧ lk E' i = some (.p x)) ∨ (¬ OwnAt E ρ n ∧ wd.G n = none ∧ n < S.length ∧ S0.length ≤ n))
    (hF : ∀ i x n, lk E i = some (.o x) → lk E' i = some (.p x) → look ρ i = some (.ref n) → A n) : Inv' (wd.add A) E' ρ S ∧ Step wd0 E0 ρ0 S0 (wd.add A) E' ρ S := by
  have nosh : ∀ n, OwnAt E' ρ n → ¬ (wd.add A).sh n := fun n h q => by
    have ho := F.own h
    rcases q with q | q
    · exact (I.osh n ho).1 q
    · rcases hA n q with z | ⟨i, x, z1, z2, z3⟩ | z
      · exact (I.osh n ho).1 z
      · obtain ⟨j, v, g1, g2, g3⟩ := h
        have gj : lk E j = some v := by
          rcases F.2 j with e | ⟨y, e1, e2⟩
          · rw [← e]; exact g1
          · rw [e2] at g1; cases g1; cases g2
        have := I.one i j _ _ n z1 gj rfl g2 z2 g3
        subst this
        rw [z3] at g1
        cases g1
        cases g2
      · exact z.1 ho
  refine ⟨⟨F.1.trans I.len, fun i v h => ?_, fun i j v w n h1 h2 h3 h4 => ?_, fun i x n h1 h2 => ?_, fun n h => ⟨nosh n h, (I.osh n (F.own h)).2⟩, fun n h => ?_, I.gok⟩, ⟨T.len, fun n h => .inl (T.shm n h), fun n h => ?_, T.Gm, T.Gn, fun n h => T.own n (F.own h), T.fr, fun i x h => ?_, fun i x h => ?_, fun i x n h e => ?_⟩⟩
  · rcases F.2 i with e | ⟨x, e1, e2⟩
    · rw [e] at h
      obtain ⟨d, e1, r⟩ := I.rep i v h
      exact ⟨d, e1, r.keep keep_add (tk_refl d)⟩
    · rw [e2] at h
      cases h
      obtain ⟨d, g1, r, n, rfl⟩ := I.rep i _ e1
      exact ⟨_, g1, RepT.keepT keep_add x _ r (tk_refl _), .inr (hF i x n e1 e2 g1)⟩
  · have back : ∀ i v, lk E' i = some v → v.own = true → lk E i = some v := fun i v h g => by
      rcases F.2 i with e | ⟨x, e1, e2⟩
      · rw [← e]; exact h
      · rw [e2] at h; cases h; cases g
    exact I.one i j v w n (back i v h1 h3) (back j w h2 h4) h3 h4
  · have hb : lk E i = some (.b x) := by
      rcases F.2 i with e | ⟨y, e1, e2⟩
      · rw [← e]; exact h1
      · rw [e2] at h1; cases h1
    exact ⟨fun h3 => (I.bor i x n hb h2).1 (F.own h3), (I.bor i x n hb h2).2⟩
  · rcases h with h | h
    · exact I.shl n h
    · rcases hA n h with z | ⟨i, x, z1, z2, z3⟩ | z
      · exact I.shl n z
      · have ho : OwnAt E ρ n := ⟨i, _, z1, rfl, z2⟩
        obtain ⟨o, e⟩ := own_at I ho
        exact ⟨at_lt e, (I.osh n ho).2⟩
      · exact ⟨z.2.2.1, z.2.1⟩
  · rcases h with h | h
    · exact T.shn n h
    · rcases hA n h with z | ⟨i, x, z1, z2, z3⟩ | z
      · exact T.shn n z
      · rcases T.own n ⟨i, _, z1, rfl, z2⟩ with q | q
        · exact .inr (.inr q)
        · exact .inr (.inl q)
      · exact .inr (.inl z.2.2.2)
  · have hb : lk E i = some (.b x) := by
      rcases F.2 i with e | ⟨y, e1, e2⟩
      · rw [← e]; exact h
      · rw [e2] at h; cases h
    exact T.bor i x hb
  · have hb : lk E i = some (.io x) := by
      rcases F.2 i with e | ⟨y, e1, e2⟩
      · rw [← e]; exact h
      · rw [e2] at h; cases h
    exact T.io i x hb
  · have hb : lk E i = some (.o x) := by
      rcases F.2 i with e | ⟨y, e1, e2⟩
      · rw [← e]; exact h
      · rw [e2] at h; cases h
    exact T.oo i x n hb e
theorem take1_frz {h : Hd} {x : P} (e : take1 E h = some (x, E')) : Frz E E' := by
  unfold take1 at e
  split at e
  · split at e
    · cases e; exact Frz.refl _
    · rename_i hq
      cases e
      exact Frz.set hq
    · cases e
  · cases e; exact Frz.refl _
  · cases e; exact Frz.refl _
  · cases e
theorem takeL_frz : ∀ {hs : List Hd} {E : VEnv} {xs : List P}, takeL E hs = some (xs, E') → Frz E E'
  | [], _, _, e => by cases e; exact Frz.refl _
  | h :: r, E, xs, e => by
    unfold takeL at e
    split at e
    · rename_i x E1 e1
      split at e
      · rename_i ys E2 e2
        cases e
        exact (take1_frz e1).trans (takeL_frz e2)
      · cases e
    · cases e
/-- the data of what is taken, and where it stands -/
def Taken (wd : Wd) (E : VEnv) (ρ : Rho) (S : Sto) (L : Nat) (E' : VEnv) (x : P) (d : D) : Prop := RepT wd S x d ∧ ∀ n, d = .ref n → wd.sh n ∨ (∃ i x, lk E i = some (.o x) ∧ look ρ i = some (.ref n) ∧ lk E' i = some (.p x)) ∨ (¬ OwnAt E ρ n ∧ wd.G n = none ∧ n < S.length ∧ L ≤ n)
theorem take1_rep (I : Inv' wd E ρ S) {h : Hd} {d : D} {x : P} (F : Frz E E1) (F2 : Frz E2 E') (r : RepH wd E ρ S L h d) (e : take1 E1 h = some (x, E2)) : Taken wd E ρ S L E' x d := by
  have sh1 : ∀ {x : P} {d : D}, RepP wd S x d → ∀ n, d = .ref n → wd.sh n := fun h n e => by subst e; exact h.2
  unfold take1 at e
  split at e
  · rename_i i
    have r : look ρ i = some d := r
    split at e
    · rename_i y hq
      cases e
      rcases F.2 i with z | ⟨y, z1, z2⟩
      · rw [hq] at z
        obtain ⟨d', e1, r1⟩ := I.rep i _ z.symm
        rw [r] at e1
        cases e1
        exact ⟨r1.1, fun n e => .inl (sh1 r1 n e)⟩
      · rw [hq] at z2
        cases z2
        obtain ⟨d', e1, r1, n', e2⟩ := I.rep i _ z1
        rw [r] at e1
        cases e1
        refine ⟨r1, fun n e => .inr (.inl ⟨i, _, z1, by rw [r, e], ?_⟩)⟩
        rcases F2.2 i with g | ⟨y, g1, g2⟩
        · rw [g]; exact hq
        · rw [hq] at g1; cases g1
    · rename_i y hq
      cases e
      rcases F.2 i with z | ⟨y, z1, z2⟩
      · rw [hq] at z
        obtain ⟨d', e1, r1, n', e2⟩ := I.rep i _ z.symm
        rw [r] at e1
        cases e1
        have hp : lk (pt E1 i (some (.p x))) i = some (.p x) := by rw [lk_pt, if_pos ⟨rfl, lk_lt hq⟩]
        refine ⟨r1, fun n e => .inr (.inl ⟨i, _, z.symm, by rw [r, e], ?_⟩)⟩
        rcases F2.2 i with g | ⟨y, g1, g2⟩
        · rw [g]; exact hp
        · rw [hp] at g1; cases g1
      · rw [hq] at z2; cases z2
    · cases e
  · cases e
    exact ⟨r.1, fun n e => .inl (sh1 r n e)⟩
  · cases e
    obtain ⟨r, n, rfl, h0, h1, h2, h3⟩ := r
    refine ⟨r, fun m e => ?_⟩
    cases e
    obtain ⟨o, ho⟩ := r.at_
    exact .inr (.inr ⟨h3, h2, at_lt ho, h0⟩)
  · cases e
theorem takeL_rep (I : Inv' wd E ρ S) : ∀ {hs : List Hd} {ds : List D} {xs : List P} {E1 : VEnv}, Frz E E1 → RepHs wd E ρ S L hs ds → takeL E1 hs = some (xs, E') → ∃ l : List (P × D), l.map (·.1) = xs ∧ l.map (·.2) = ds ∧ ∀ p ∈ l, Taken wd E ρ S L E' p.1 p.2
  | [], _, _, _, F, r, e => by
    cases r
    cases e
    exact ⟨[], rfl, rfl, fun _ h => nomatch h⟩
  | h :: hs, _, _, E1, F, r, e => by
    obtain ⟨d, s, rfl, r1, r2⟩ := r
    unfold takeL at e
    split at e
    · rename_i x E2 e1
      split at e
      · rename_i ys E3 e2
        cases e
        obtain ⟨l, a, b, c⟩ := takeL_rep I (F.trans (take1_frz e1)) r2 e2
        refine ⟨(x, d) :: l, by rw [List.map_cons, a], by rw [List.map_cons, b], fun p hp => ?_⟩
        rcases List.mem_cons.mp hp with rfl | hp
        · exact take1_rep I F (takeL_frz e2) r1 e1
        · exact c p hp
      · cases e
    · cases e
theorem repL_of : ∀ {l : List (P × D)}, (∀ p ∈ l, RepP wd S p.1 p.2) → RepL wd S (l.map (·.1)) (l.map (·.2))
  | [], _ => rfl
  | p :: r, h => RepL.cons (h p (List.mem_cons_self ..)) (repL_of fun q hq => h q (List.mem_cons_of_mem _ hq))
theorem takeL_ok (I : Inv' wd E ρ S) (T : Step wd0 E0 ρ0 S0 wd E ρ S) {hs : List Hd} {ds : List D} {xs : List P} (r : RepHs wd E ρ S S0.length hs ds) (e : takeL E hs = some (xs, E')) :
    ∃ wd', Inv' wd' E' ρ S ∧ Step wd0 E0 ρ0 S0 wd' E' ρ S ∧ RepL wd' S xs ds := by
  obtain ⟨l, rfl, rfl, h⟩ := takeL_rep I (Frz.refl _) r e
  have F := takeL_frz e
  let A : Nat → Prop := fun n => (∃ p ∈ l, p.2 = .ref n) ∨ ∃ i x, lk E i = some (.o x) ∧ lk E' i = some (.p x) ∧ look ρ i = some (.ref n)
  obtain ⟨I', T'⟩ := freeze I T F A (fun n hn => by
    rcases hn with ⟨p, hp, e⟩ | ⟨i, x, h1, h2, h3⟩
    · exact (h p hp).2 n e
    · exact .inr (.inl ⟨i, x, h1, h3, h2⟩)) (fun i x n h1 h2 h3 => .inr ⟨i, x, h1, h2, h3⟩)
  refine ⟨wd.add A, I', T', repL_of fun p hp => ⟨RepT.keepT keep_add _ _ (h p hp).1 (tk_refl _), ?_⟩⟩
  cases q : p.2 with
  | ref n => exact .inr (.inl ⟨p, hp, q⟩)
  | _ => trivial
theorem take1_ok (I : Inv' wd E ρ S) (T : Step wd0 E0 ρ0 S0 wd E ρ S) {h : Hd} {d : D} {x : P} (r : RepH wd E ρ S S0.length h d) (e : take1 E h = some (x, E')) :
    ∃ wd', Inv' wd' E' ρ S ∧ Step wd0 E0 ρ0 S0 wd' E' ρ S ∧ RepP wd' S x d := by
  obtain ⟨wd', a, b, c⟩ := takeL_ok I T (hs := [h]) (ds := [d]) (xs := [x]) (E' := E') ⟨d, [], rfl, r, rfl⟩ (by unfold takeL; rw [e]; rfl)
  obtain ⟨d', s, e', h1, _⟩ := c.uncons
  cases e'
  exact ⟨wd', a, b, h1⟩
end

/-! ### expressions -/
def vVar (i : Nat) : VE := fun X E Q => gv (lk E i) fun _ => Q (.slot i) E
def vCst (x : P) : VE := fun X E Q => Q (.v (.p x)) E
def vOp (o : VO) (a b : VE) : VE := fun X E Q => a X E fun h E1 => b X E1 fun g E2 => gv (rd E2 h) fun x => gv (rd E2 g) fun y => o x y fun v => Q (.v v) E2
def intP : P → (Int → Prop) → Prop
  | .int i, Q => Q i
  | _, _ => False
def blP : P → (Bool → Prop) → Prop
  | .bl i, Q => Q i
  | _, _ => False
def vNeg (a : VE) : VE := fun X E Q => a X E fun h E1 => gv (rd E1 h) fun x => intP x fun i => Q (.v (.p (.int (-i)))) E1
def vNotV (a : VE) : VE := fun X E Q => a X E fun h E1 => gv (rd E1 h) fun x => truP x fun k => Q (.v (.p (.bl (!k)))) E1
def vAndV (a b : VE) : VE := fun X E Q => a X E fun h E1 => gv (rd E1 h) fun x => truP x fun k => if k = true then b X E1 Q else Q h E1
def vOrV (a b : VE) : VE := fun X E Q => a X E fun h E1 => gv (rd E1 h) fun x => truP x fun k => if k = true then Q h E1 else b X E1 Q
def vChain (o p : VO) (a b c : VE) : VE := fun X E Q => a X E fun h E1 => b X E1 fun g E2 => gv (rd E2 h) fun x => gv (rd E2 g) fun y => o x y fun v => blP v.val fun k =>
  if k = true then c X E2 fun f E4 => gv (rd E4 g) fun y => gv (rd E4 f) fun z => p y z fun v => Q (.v v) E4 else Q (.v (.p (.bl false))) E2
def vIf (t : VT) (a b : VE) : VE := fun X E Q => t X E fun k E1 => if k = true then a X E1 Q else b X E1 Q
def vNil : VA := fun X E Q => Q [] E
def vCons (a : VE) (r : VA) : VA := fun X E Q => a X E fun h E1 => r X E1 fun hs E2 => Q (h :: hs) E2
def vTup (a : VA) : VE := fun X E Q => a X E fun hs E1 => hs.length ≤ sizeLine ∧ gv (takeL E1 hs) fun r => Q (.v (.p (.tup r.1))) r.2
def vLst (a : VA) : VE := fun X E Q => a X E fun hs E1 => hs.length ≤ sizeLine ∧ gv (takeL E1 hs) fun r => Q (.v (.o (.lst r.1))) r.2
abbrev VP := XV → VEnv → (Option Int → VEnv → Prop) → Prop
def vNoP : VP := fun X E Q => Q none E
def vPart (a : VE) : VP := fun X E Q => a X E fun h E1 => gv (rd E1 h) fun x => intP x fun i => Q (some i) E1
def vSlc (a : VE) (lo hi : VP) : VE := fun X E Q => a X E fun h E1 => lo X E1 fun l E2 => hi X E2 fun u E3 => gv (rd E3 h) fun x => oSlc x l u fun v => Q (.v v) E3
def vBits (a : VE) : VE := fun X E Q => a X E fun h E1 => gv (rd E1 h) fun x => intP x fun i => Q (.v (.p (.int (Builtin.Int.intBits i : Nat)))) E1
def vTst (a : VE) : VT := fun X E Q => a X E fun h E1 => gv (rd E1 h) fun x => truP x fun k => Q k E1
def vTsB (a : VE) : VT := fun X E Q => a X E fun h E1 => gv (rd E1 h) fun x => blP x fun k => Q k E1
def vNotB (t : VT) : VT := fun X E Q => t X E fun b E1 => Q (!b) E1
def vAndB (t u : VT) : VT := fun X E Q => t X E fun b E1 => if b = true then u X E1 Q else Q false E1
def vOrB (t u : VT) : VT := fun X E Q => t X E fun b E1 => if b = true then Q true E1 else u X E1 Q
def vYes : VT := fun X E Q => Q true E
def SimP (w : WO) (ve : VP) : Prop := ∀ (X : XV) (E : VEnv) (Qv : Option Int → VEnv → Prop), ve X E Qv → ∀ (wd : Wd) (ρ : Rho) (S : Sto) (xq : XQ) (Qd : Option Int → Sto → Prop), Inv' wd E ρ S →
  (∀ b E' wd' S', Qv b E' → Inv' wd' E' ρ S' → Step wd E ρ S wd' E' ρ S' → Qd b S') → XOk X wd E ρ S xq → w (xq, ρ) S Qd
theorem truP_mono {x : P} {Q Q' : Bool → Prop} (h : ∀ b, Q b → Q' b) (q : truP x Q) : truP x Q' := by
  unfold truP at q ⊢
  split at q <;> first | exact h _ q | exact ⟨q.1, h _ q.2⟩ | exact q.elim
theorem intP_iff {d : P} {Q : Int → Prop} (h : intP d Q) : ∃ i, d = .int i ∧ Q i := by
  cases d <;> first | exact ⟨_, rfl, h⟩ | exact h.elim
theorem blP_iff {d : P} {Q : Bool → Prop} (h : blP d Q) : ∃ i, d = .bl i ∧ Q i := by
  cases d <;> first | exact ⟨_, rfl, h⟩ | exact h.elim
section
variable {a b c : W} {t u : WT} {va vb vc : VE} {vt vu : VT} {wa : WA} {ra : VA}
theorem sim_var (i : Nat) : SimE (wVar i) (vVar i) := fun X E Qv q wd ρ S xq Qd I k x => by
  obtain ⟨v, e, q⟩ := gv_iff.mp q
  obtain ⟨d, e1, r⟩ := I.rep i v e
  show gv (look ρ i) fun d => Qd d S
  rw [e1]
  exact k _ _ _ _ _ q I (Step.refl _ _ _ _) e1
theorem sim_cst {d : D} {x : P} (h : ∀ wd S, RepP wd S x d) : SimE (wCst d) (vCst x) := fun X E Qv q wd ρ S xq Qd I k _ => k _ _ _ _ _ q I (Step.refl _ _ _ _) (h wd S)
theorem sim_non : SimE (wCst .non) (vCst .non) := sim_cst fun _ _ => repP_non
theorem sim_bl (b : Bool) : SimE (wCst (.bl b)) (vCst (.bl b)) := sim_cst fun _ _ => repP_bl
theorem sim_int (i : Int) : SimE (wCst (.int i)) (vCst (.int i)) := sim_cst fun _ _ => repP_int
theorem sim_str (s : Str) : SimE (wCst (.str s)) (vCst (.str s)) := sim_cst fun _ _ => repP_str
/-- the end of an expression: what an operation hands back -/
theorem fin1 {wd wd1 : Wd} {E E1 : VEnv} {ρ : Rho} {S S1 S2 : Sto} {Qv : Hd → VEnv → Prop} {Qd : Q1} {v : V'} {d : D} (I1 : Inv' wd1 E1 ρ S1) (T1 : Step wd E ρ S wd1 E1 ρ S1)
    (k : ∀ h E' wd' d S', Qv h E' → Inv' wd' E' ρ S' → Step wd E ρ S wd' E' ρ S' → RepH wd' E' ρ S' S.length h d → Qd d S') (q : Qv (.v v) E1) (r : Res1 wd1 S1 v d S2) : Qd d S2 := by
  obtain ⟨I2, T2, r2⟩ := r.fin I1
  exact k _ _ _ _ _ q I2 (T1.trans T2) (r2.le T1.len)
theorem sim_op {o : OpD} {vo : VO} (ho : SimO o vo) (ha : SimE a va) (hb : SimE b vb) : SimE (wOp o a b) (vOp vo va vb) := fun X E Qv q wd ρ S xq Qd I k x =>
  ha X E _ q wd ρ S xq _ I (fun h1 E1 wd1 d1 S1 q1 I1 T1 r1 => hb X E1 _ q1 wd1 ρ S1 xq _ I1 (fun h2 E2 wd2 d2 S2 q2 I2 T2 r2 => by
    obtain ⟨x, e1, q2⟩ := gv_iff.mp q2
    obtain ⟨y, e2, q2⟩ := gv_iff.mp q2
    exact ho _ _ _ _ _ _ _ _ (rd_rep I2 (r1.step I1 T2) e1) (rd_rep I2 r2 e2) q2 fun v d S3 q3 r3 => fin1 I2 (T1.trans T2) k q3 r3) (x.step T1)) x
theorem sim_neg (ha : SimE a va) : SimE (wNeg a) (vNeg va) := fun X E Qv q wd ρ S xq Qd I k x =>
  ha X E _ q wd ρ S xq _ I (fun h1 E1 wd1 d1 S1 q1 I1 T1 r1 => by
    obtain ⟨x, e1, q1⟩ := gv_iff.mp q1
    obtain ⟨i, rfl, q1⟩ := intP_iff q1
    cases (show d1 = _ from rd_rep I1 r1 e1)
    exact fin1 I1 T1 k q1 (Res1.pas repP_int)) x
theorem sim_notV (ha : SimE a va) : SimE (wNotV a) (vNotV va) := fun X E Qv q wd ρ S xq Qd I k x =>
  ha X E _ q wd ρ S xq _ I (fun h1 E1 wd1 d1 S1 q1 I1 T1 r1 => by
    obtain ⟨x, e1, q1⟩ := gv_iff.mp q1
    have r := rd_rep I1 r1 e1
    have q2 := sim_tru (Q := fun k => Qd (.bl (!k)) S1) r (truP_mono (fun k0 z => fin1 I1 T1 k z (Res1.pas repP_bl)) q1)
    exact q2) x
theorem sim_andV (ha : SimE a va) (hb : SimE b vb) : SimE (wAndV a b) (vAndV va vb) := fun X E Qv q wd ρ S xq Qd I k x =>
  ha X E _ q wd ρ S xq _ I (fun h1 E1 wd1 d1 S1 q1 I1 T1 r1 => by
    obtain ⟨x', e1, q1⟩ := gv_iff.mp q1
    refine sim_tru (rd_rep I1 r1 e1) (truP_mono (fun k0 z => ?_) q1)
    cases k0 with
    | true => exact hb X E1 _ z wd1 ρ S1 xq _ I1 (fun h2 E2 wd2 d2 S2 q2 I2 T2 r2 => k _ _ _ _ _ q2 I2 (T1.trans T2) (r2.le T1.len)) (x.step T1)
    | false => exact k _ _ _ _ _ z I1 T1 r1) x
theorem sim_orV (ha : SimE a va) (hb : SimE b vb) : SimE (wOrV a b) (vOrV va vb) := fun X E Qv q wd ρ S xq Qd I k x =>
  ha X E _ q wd ρ S xq _ I (fun h1 E1 wd1 d1 S1 q1 I1 T1 r1 => by
    obtain ⟨x', e1, q1⟩ := gv_iff.mp q1
    refine sim_tru (rd_rep I1 r1 e1) (truP_mono (fun k0 z => ?_) q1)
    cases k0 with
    | false => exact hb X E1 _ z wd1 ρ S1 xq _ I1 (fun h2 E2 wd2 d2 S2 q2 I2 T2 r2 => k _ _ _ _ _ q2 I2 (T1.trans T2) (r2.le T1.len)) (x.step T1)
    | true => exact k _ _ _ _ _ z I1 T1 r1) x
theorem sim_chain {o p : OpD} {vo vp : VO} (ho : SimO o vo) (hp : SimO p vp) (ha : SimE a va) (hb : SimE b vb) (hc : SimE c vc) : SimE (wChain o p a b c) (vChain vo vp va vb vc) := fun X E Qv q wd ρ S xq Qd I k x =>
  ha X E _ q wd ρ S xq _ I (fun h1 E1 wd1 d1 S1 q1 I1 T1 r1 => hb X E1 _ q1 wd1 ρ S1 xq _ I1 (fun h2 E2 wd2 d2 S2 q2 I2 T2 r2 => by
    obtain ⟨x', e1, q2⟩ := gv_iff.mp q2
    obtain ⟨y, e2, q2⟩ := gv_iff.mp q2
    refine ho _ _ _ _ _ _ _ _ (rd_rep I2 (r1.step I1 T2) e1) (rd_rep I2 r2 e2) q2 fun v d S3 q3 r3 => ?_
    obtain ⟨k0, e3, q3⟩ := blP_iff q3
    have hS : S3 = S2 ∧ d = .bl k0 := by
      rcases r3 with ⟨z, rfl, rfl, r⟩ | ⟨z, ob, rfl, rfl, rfl, r⟩
      · have e3 : z = .bl k0 := e3
        subst e3
        exact ⟨rfl, r.1⟩
      · have e3 : z = .bl k0 := e3
        subst e3
        cases r
    obtain ⟨rfl, rfl⟩ := hS
    refine isBl_iff.mpr ⟨k0, rfl, ?_⟩
    cases k0 with
    | true =>
      refine hc X E2 _ q3 wd2 ρ S3 xq _ I2 (fun h3 E4 wd4 d4 S4 q4 I4 T4 r4 => ?_) (x.step (T1.trans T2))
      obtain ⟨y', e4, q4⟩ := gv_iff.mp q4
      obtain ⟨z', e5, q4⟩ := gv_iff.mp q4
      exact hp _ _ _ _ _ _ _ _ (rd_rep I4 (r2.step I2 T4) e4) (rd_rep I4 r4 e5) q4 fun v d S5 q5 r5 => fin1 I4 ((T1.trans T2).trans T4) k q5 r5
    | false => exact fin1 I2 (T1.trans T2) k q3 (Res1.pas repP_bl)) (x.step T1)) x
theorem sim_if (ht : SimT t vt) (ha : SimE a va) (hb : SimE b vb) : SimE (wIf t a b) (vIf vt va vb) := fun X E Qv q wd ρ S xq Qd I k x =>
  ht X E _ q wd ρ S xq _ I (fun k0 E1 wd1 S1 q1 I1 T1 => by
    cases k0 with
    | true => exact ha X E1 _ q1 wd1 ρ S1 xq _ I1 (fun h2 E2 wd2 d2 S2 q2 I2 T2 r2 => k _ _ _ _ _ q2 I2 (T1.trans T2) (r2.le T1.len)) (x.step T1)
    | false => exact hb X E1 _ q1 wd1 ρ S1 xq _ I1 (fun h2 E2 wd2 d2 S2 q2 I2 T2 r2 => k _ _ _ _ _ q2 I2 (T1.trans T2) (r2.le T1.len)) (x.step T1)) x
theorem sim_nil : SimA wNil vNil := fun X E Qv q wd ρ S xq Qd I k _ => k _ _ _ _ _ q I (Step.refl _ _ _ _) rfl
theorem sim_cons (ha : SimE a va) (hr : SimA wa ra) : SimA (wCons a wa) (vCons va ra) := fun X E Qv q wd ρ S xq Qd I k x =>
  ha X E _ q wd ρ S xq _ I (fun h1 E1 wd1 d1 S1 q1 I1 T1 r1 => hr X E1 _ q1 wd1 ρ S1 xq _ I1 (fun h2 E2 wd2 d2 S2 q2 I2 T2 r2 =>
    k _ _ _ _ _ q2 I2 (T1.trans T2) ⟨_, _, rfl, r1.step I1 T2, r2.le T1.len⟩) (x.step T1)) x
theorem RepHs.length {wd : Wd} {E : VEnv} {ρ : Rho} {S : Sto} {L : Nat} : ∀ {hs : List Hd} {ds : List D}, RepHs wd E ρ S L hs ds → hs.length = ds.length
  | [], _, h => by cases h; rfl
  | h :: hs, _, r => by
    obtain ⟨d, s, rfl, _, r2⟩ := r
    rw [List.length_cons, List.length_cons, RepHs.length r2]
theorem sim_tup (ha : SimA wa ra) : SimE (wTup wa) (vTup ra) := fun X E Qv q wd ρ S xq Qd I k x =>
  ha X E _ q wd ρ S xq _ I (fun h1 E1 wd1 d1 S1 q1 I1 T1 r1 => by
    obtain ⟨hl, q1⟩ := q1
    obtain ⟨⟨xs, E2⟩, e, q1⟩ := gv_iff.mp q1
    obtain ⟨wd2, I2, T2, r2⟩ := takeL_ok I1 T1 r1 e
    refine ⟨by rw [← r1.length]; exact hl, k _ _ _ _ _ q1 I2 T2 (repP_tup r2)⟩) x
theorem sim_lst (ha : SimA wa ra) : SimE (wLst wa) (vLst ra) := fun X E Qv q wd ρ S xq Qd I k x =>
  ha X E _ q wd ρ S xq _ I (fun h1 E1 wd1 d1 S1 q1 I1 T1 r1 => by
    obtain ⟨hl, q1⟩ := q1
    obtain ⟨⟨xs, E2⟩, e, q1⟩ := gv_iff.mp q1
    obtain ⟨wd2, I2, T2, r2⟩ := takeL_ok I1 T1 r1 e
    exact ⟨by rw [← r1.length]; exact hl, fin1 I2 T2 k q1 (Res1.newL r2 keepPush)⟩) x
theorem sim_noP : SimP wNoP vNoP := fun X E Qv q wd ρ S xq Qd I k _ => k _ _ _ _ q I (Step.refl _ _ _ _)
theorem sim_part (ha : SimE a va) : SimP (wPart a) (vPart va) := fun X E Qv q wd ρ S xq Qd I k x =>
  ha X E _ q wd ρ S xq _ I (fun h1 E1 wd1 d1 S1 q1 I1 T1 r1 => by
    obtain ⟨x, e1, q1⟩ := gv_iff.mp q1
    obtain ⟨i, rfl, q1⟩ := intP_iff q1
    cases (show d1 = _ from rd_rep I1 r1 e1)
    exact k _ _ _ _ q1 I1 T1) x
theorem sim_slcE {lo hi : WO} {vl vh : VP} (ha : SimE a va) (hl : SimP lo vl) (hh : SimP hi vh) : SimE (wSlc a lo hi) (vSlc va vl vh) := fun X E Qv q wd ρ S xq Qd I k x =>
  ha X E _ q wd ρ S xq _ I (fun h1 E1 wd1 d1 S1 q1 I1 T1 r1 => hl X E1 _ q1 wd1 ρ S1 xq _ I1 (fun b2 E2 wd2 S2 q2 I2 T2 => hh X E2 _ q2 wd2 ρ S2 xq _ I2 (fun b3 E3 wd3 S3 q3 I3 T3 => by
    obtain ⟨x, e1, q3⟩ := gv_iff.mp q3
    exact sim_slc (rd_rep I3 ((r1.step I1 T2).step I2 T3) e1) q3 fun v d S4 q4 r4 => fin1 I3 ((T1.trans T2).trans T3) k q4 r4) (x.step (T1.trans T2))) (x.step T1)) x
theorem sim_bits (ha : SimE a va) : SimE (wBits a) (vBits va) := fun X E Qv q wd ρ S xq Qd I k x =>
  ha X E _ q wd ρ S xq _ I (fun h1 E1 wd1 d1 S1 q1 I1 T1 r1 => by
    obtain ⟨x, e1, q1⟩ := gv_iff.mp q1
    obtain ⟨i, rfl, q1⟩ := intP_iff q1
    cases (show d1 = _ from rd_rep I1 r1 e1)
    exact fin1 I1 T1 k q1 (Res1.pas repP_int)) x
theorem sim_tst (ha : SimE a va) : SimT (wTst a) (vTst va) := fun X E Qv q wd ρ S xq Qd I k x =>
  ha X E _ q wd ρ S xq _ I (fun h1 E1 wd1 d1 S1 q1 I1 T1 r1 => by
    obtain ⟨x', e1, q1⟩ := gv_iff.mp q1
    exact sim_tru (rd_rep I1 r1 e1) (truP_mono (fun k0 z => k _ _ _ _ z I1 T1) q1)) x
theorem sim_tsB (ha : SimE a va) : SimT (wTsB a) (vTsB va) := fun X E Qv q wd ρ S xq Qd I k x =>
  ha X E _ q wd ρ S xq _ I (fun h1 E1 wd1 d1 S1 q1 I1 T1 r1 => by
    obtain ⟨x', e1, q1⟩ := gv_iff.mp q1
    obtain ⟨b, rfl, q1⟩ := blP_iff q1
    cases (show d1 = _ from rd_rep I1 r1 e1)
    exact k _ _ _ _ q1 I1 T1) x
theorem sim_notB (ht : SimT t vt) : SimT (wNotB t) (vNotB vt) := fun X E Qv q wd ρ S xq Qd I k x =>
  ht X E _ q wd ρ S xq _ I (fun k0 E1 wd1 S1 q1 I1 T1 => k _ _ _ _ q1 I1 T1) x
theorem sim_andB (ht : SimT t vt) (hu : SimT u vu) : SimT (wAndB t u) (vAndB vt vu) := fun X E Qv q wd ρ S xq Qd I k x =>
  ht X E _ q wd ρ S xq _ I (fun k0 E1 wd1 S1 q1 I1 T1 => by
    cases k0 with
    | true => exact hu X E1 _ q1 wd1 ρ S1 xq _ I1 (fun k2 E2 wd2 S2 q2 I2 T2 => k _ _ _ _ q2 I2 (T1.trans T2)) (x.step T1)
    | false => exact k _ _ _ _ q1 I1 T1) x
theorem sim_orB (ht : SimT t vt) (hu : SimT u vu) : SimT (wOrB t u) (vOrB vt vu) := fun X E Qv q wd ρ S xq Qd I k x =>
  ht X E _ q wd ρ S xq _ I (fun k0 E1 wd1 S1 q1 I1 T1 => by
    cases k0 with
    | false => exact hu X E1 _ q1 wd1 ρ S1 xq _ I1 (fun k2 E2 wd2 S2 q2 I2 T2 => k _ _ _ _ q2 I2 (T1.trans T2)) (x.step T1)
    | true => exact k _ _ _ _ q1 I1 T1) x
theorem sim_yes : SimT wYes vYes := fun X E Qv q wd ρ S xq Qd I k _ => k _ _ _ _ q I (Step.refl _ _ _ _)

/-! ### what is built in: it reads its arguments -/
abbrev VC := List P → (V' → Prop) → Prop
def SimC (f : CalD) (g : VC) : Prop := ∀ wd S (l : List (P × D)) (Qv : V' → Prop) (Qd : Q1), (∀ p ∈ l, RepT wd S p.1 p.2) → g (l.map (·.1)) Qv → (∀ v d S', Qv v → Res1 wd S v d S' → Qd d S') → f (l.map (·.2)) S Qd
def vBlt (g : VC) (a : VA) : VE := fun X E Q => a X E fun hs E1 => gv (rds E1 hs) fun xs => g xs fun v => Q (.v v) E1
theorem sim_blt {f : CalD} {g : VC} (hf : SimC f g) (ha : SimA wa ra) : SimE (wBlt f wa) (vBlt g ra) := fun X E Qv q wd ρ S xq Qd I k x =>
  ha X E _ q wd ρ S xq _ I (fun h1 E1 wd1 d1 S1 q1 I1 T1 r1 => by
    obtain ⟨xs, e, q1⟩ := gv_iff.mp q1
    obtain ⟨l, rfl, rfl, hr⟩ := rds_rep I1 r1 e
    exact hf _ _ _ _ _ hr q1 fun v d S2 q2 r2 => fin1 I1 T1 k q2 r2) x
/-- a method that only reads -/
abbrev VM := P → List P → (V' → Prop) → Prop
def SimM (ty : D → Sto → Prop) (f : MetD) (g : VM) : Prop := (∀ wd S x d vs Qv, RepT wd S x d → g x vs Qv → ty d S) ∧ ∀ wd S x d (l : List (P × D)) (Qv : V' → Prop) (Qd : Q1), RepT wd S x d → (∀ p ∈ l, RepP wd S p.1 p.2) → g x (l.map (·.1)) Qv → (∀ v d S', Qv v → Res1 wd S v d S' → Qd d S') → f d (l.map (·.2)) S Qd
/-- the receiver's type is asked before the arguments are read: what is asked of it then -/
def vMet (tv : P → Prop) (g : VM) (a : VE) (r : VA) : VE := fun X E Q => a X E fun h E1 => gv (rd E1 h) fun x => tv x ∧ r X E1 fun hs E2 => gv (takeL E2 hs) fun t => gv (rd t.2 h) fun x => g x t.1 fun v => Q (.v v) t.2
end
end WW


set_option Elab.async false
set_option linter.all false
set_option maxRecDepth 100000
set_option maxHeartbeats 4000000
set_option autoImplicit false
namespace WW
open PySem PySem.Spec PyProof.Rows L2

/-! ### what is built in -/
section
variable {wd : Wd} {S : Sto}
theorem one_of {l : List (P × D)} {x : P} (h : l.map (·.1) = [x]) : ∃ d, l = [(x, d)] := by
  match l, h with
  | [(y, d)], h => injection h with h1 h2; subst h1; exact ⟨d, rfl⟩
theorem two_of {l : List (P × D)} {x y : P} (h : l.map (·.1) = [x, y]) : ∃ d e, l = [(x, d), (y, e)] := by
  match l, h with
  | [(u, d), (v, e)], h =>
    injection h with h1 h2
    injection h2 with h2 h3
    subst h1
    subst h2
    exact ⟨d, e, rfl⟩
end
def cLen : VC
  | [.tup xs], Q => Q (.p (.int (xs.length : Nat)))
  | [.fro xs], Q => Q (.p (.int (xs.length : Nat)))
  | [.lst xs], Q => Q (.p (.int (xs.length : Nat)))
  | [.dct 0 kvs], Q => Q (.p (.int (kvs.length : Nat)))
  | [.dct 1 kvs], Q => Q (.p (.int (kvs.length : Nat)))
  | [.str z], Q => z.length ≤ sizeLine ∧ Q (.p (.int (z.length : Nat)))
  | _, _ => False
def cList : VC
  | [.tup xs], Q => Q (.o (.lst xs))
  | [.fro xs], Q => Q (.o (.lst xs))
  | [.lst xs], Q => Q (.o (.lst xs))
  | _, _ => False
def cTuple : VC
  | [.tup xs], Q => Q (.p (.tup xs))
  | [.fro xs], Q => Q (.p (.tup xs))
  | [.lst xs], Q => Q (.p (.tup xs))
  | _, _ => False
def cInt : VC
  | [.int i], Q => Q (.p (.int i))
  | _, _ => False
def cStr : VC
  | [.int i], Q => i.natAbs.log2 < 1920 ∧ Q (.p (.str (toString i)))
  | [.str z], Q => Q (.p (.str z))
  | _, _ => False
def seqP : P → Option (List P)
  | .lst xs => some xs
  | .fro xs => some xs
  | _ => none
def intsP (x : P) (Q : List Int → Prop) : Prop := ∃ ns : List Int, seqP x = some (ns.map .int) ∧ Q ns
def cSum : VC
  | [x], Q => intsP x fun ns => Q (.p (.int ns.sum))
  | _, _ => False
def cMax : VC
  | [.int i, .int j], Q => Q (.p (.int (if j > i then j else i)))
  | [x], Q => intsP x fun ns => 0 < ns.length ∧ ∀ m, m ∈ ns → (∀ y, y ∈ ns → y ≤ m) → Q (.p (.int m))
  | _, _ => False
def cMin : VC
  | [.int i, .int j], Q => Q (.p (.int (if j < i then j else i)))
  | [x], Q => intsP x fun ns => 0 < ns.length ∧ ∀ m, m ∈ ns → (∀ y, y ∈ ns → m ≤ y) → Q (.p (.int m))
  | _, _ => False
def cSort : VC
  | [.dct 0 kvs], Q => ∃ ks : List Int, kvs.map (·.1) = ks.map .int ∧ ks.length < 64 ∧ ∀ ms : List Int, ms.Perm ks → ms.Pairwise (· ≤ ·) → Q (.o (.lst (ms.map .int)))
  | [x], Q => intsP x fun ns => ∀ ms : List Int, ms.Perm ns → ms.Pairwise (· ≤ ·) → Q (.o (.lst (ms.map .int)))
  | _, _ => False
section
variable {wd : Wd} {S : Sto}
theorem repL_ints : ∀ {ns : List Int} {ds : List D}, RepL wd S (ns.map .int) ds → ds = ns.map .int
  | [], _, r => r
  | n :: ns, _, r => by
    obtain ⟨d, s, rfl, r1, _, r2⟩ := r
    rw [List.map_cons, repL_ints r2]
    cases (show d = _ from r1)
    rfl
theorem repL_int : ∀ (ns : List Int), RepL wd S (ns.map .int) (ns.map .int)
  | [] => rfl
  | n :: ns => RepL.cons repP_int (repL_int ns)
theorem intsP_rep {x : P} {d : D} {Q : List Int → Prop} (r : RepT wd S x d) (q : intsP x Q) : intsOf d S Q := by
  obtain ⟨ns, e, q⟩ := q
  cases x <;> first | (cases e; done) | skip
  · cases e
    obtain ⟨ds, rfl, r⟩ := r
    exact ⟨ns, repL_ints r, q⟩
  · cases e
    obtain ⟨n, ds, rfl, h, r⟩ := r
    exact ⟨ns, by rw [h, repL_ints r], q⟩
theorem DctAt.len {n t : Nat} {ks : List P} {ds : List D} (h : DctAt S n ks ds t) : ds.length = ks.length := by
  match t, h with
  | 0, ⟨kds, _, e2, e3⟩ => rw [← e2, ← e3, List.length_map, List.length_map]
  | 1, ⟨kds, _, e2, e3⟩ => rw [← e2, ← e3, List.length_map, List.length_map]
  | 10, ⟨kds, _, e2, e3⟩ => rw [← e2, ← e3, List.length_map, List.length_map]
  | 11, ⟨kds, _, e2, e3⟩ => rw [← e2, ← e3, List.length_map, List.length_map]
theorem sim_len : SimC lenC cLen := fun wd S l Qv Qd hr q k => by
  match l, hr, q with
  | [(x, d)], hr, q =>
    have r : RepT wd S x d := hr (x, d) (by simp)
    cases x <;> try exact q.elim
    · cases (show d = _ from r)
      exact ⟨q.1, k _ _ _ q.2 (Res1.pas repP_int)⟩
    · obtain ⟨ds, rfl, r⟩ := r
      show Qd (.int (ds.length : Nat)) S
      rw [← r.length]
      exact k _ _ _ q (Res1.pas repP_int)
    · obtain ⟨ds, rfl, r⟩ := r
      show Qd (.int (ds.length : Nat)) S
      rw [← r.length]
      exact k _ _ _ q (Res1.pas repP_int)
    · obtain ⟨n, ds, rfl, h, r⟩ := r
      exact .inl ⟨ds, h, by rw [← r.length]; exact k _ _ _ q (Res1.pas repP_int)⟩
    · rename_i t kvs
      obtain ⟨n, ds, rfl, h, r⟩ := r
      have hl := h.len
      rw [List.length_map] at hl
      match t, h, q with
      | 0, ⟨kds, h, e2, _⟩, q =>
        refine .inr (.inl ⟨kds, h, ?_⟩)
        have : kds.length = kvs.length := by rw [← hl, ← e2, List.length_map]
        rw [this]
        exact k _ _ _ q (Res1.pas repP_int)
      | 1, ⟨kds, h, e2, _⟩, q =>
        refine .inr (.inr ⟨kds, h, ?_⟩)
        have : kds.length = kvs.length := by rw [← hl, ← e2, List.length_map]
        rw [this]
        exact k _ _ _ q (Res1.pas repP_int)
  | [], hr, q => exact q.elim
  | _ :: _ :: _, hr, q => exact absurd q (by unfold cLen; simp)
theorem sim_list : SimC listC cList := fun wd S l Qv Qd hr q k => by
  match l, hr, q with
  | [(x, d)], hr, q =>
    have r : RepT wd S x d := hr (x, d) (by simp)
    cases x <;> try exact q.elim
    · obtain ⟨ds, rfl, r⟩ := r
      exact k _ _ _ q (Res1.newL r keepPush)
    · obtain ⟨ds, rfl, r⟩ := r
      exact k _ _ _ q (Res1.newL r keepPush)
    · obtain ⟨n, ds, rfl, h, r⟩ := r
      exact ⟨ds, h, k _ _ _ q (Res1.newL r keepPush)⟩
  | [], hr, q => exact q.elim
  | _ :: _ :: _, hr, q => exact absurd q (by unfold cList; simp)
theorem sim_tuple : SimC tupleC cTuple := fun wd S l Qv Qd hr q k => by
  match l, hr, q with
  | [(x, d)], hr, q =>
    have r : RepT wd S x d := hr (x, d) (by simp)
    cases x <;> try exact q.elim
    · obtain ⟨ds, rfl, r⟩ := r
      exact k _ _ _ q (Res1.pas (repP_tup r))
    · obtain ⟨ds, rfl, r⟩ := r
      exact k _ _ _ q (Res1.pas (repP_tup r))
    · obtain ⟨n, ds, rfl, h, r⟩ := r
      exact ⟨ds, h, k _ _ _ q (Res1.pas (repP_tup r))⟩
  | [], hr, q => exact q.elim
  | _ :: _ :: _, hr, q => exact absurd q (by unfold cTuple; simp)
theorem sim_intC : SimC intC cInt := fun wd S l Qv Qd hr q k => by
  match l, hr, q with
  | [(x, d)], hr, q =>
    have r : RepT wd S x d := hr (x, d) (by simp)
    cases x <;> try exact q.elim
    cases (show d = _ from r)
    exact k _ _ _ q (Res1.pas repP_int)
  | [], hr, q => exact q.elim
  | _ :: _ :: _, hr, q => exact absurd q (by unfold cInt; simp)
theorem sim_strC : SimC strC cStr := fun wd S l Qv Qd hr q k => by
  match l, hr, q with
  | [(x, d)], hr, q =>
    have r : RepT wd S x d := hr (x, d) (by simp)
    cases x <;> try exact q.elim
    · cases (show d = _ from r)
      exact ⟨q.1, k _ _ _ q.2 (Res1.pas repP_str)⟩
    · cases (show d = _ from r)
      exact k _ _ _ q (Res1.pas repP_str)
  | [], hr, q => exact q.elim
  | _ :: _ :: _, hr, q => exact absurd q (by unfold cStr; simp)
theorem sim_sum : SimC sumC cSum := fun wd S l Qv Qd hr q k => by
  match l, hr, q with
  | [(x, d)], hr, q => exact intsP_rep (hr (x, d) (by simp)) (let ⟨ns, e, q⟩ := q; ⟨ns, e, k _ _ _ q (Res1.pas repP_int)⟩)
  | [], hr, q => exact q.elim
  | _ :: _ :: _, hr, q => exact absurd q (by unfold cSum; simp)
theorem intsOf_ref {d : D} {Q : List Int → Prop} (h : intsOf d S Q) : (∃ n, d = .ref n) ∨ ∃ ds, d = .fro ds := by
  cases d <;> first | exact h.elim | exact .inl ⟨_, rfl⟩ | exact .inr ⟨_, rfl⟩
theorem sim_max : SimC maxC cMax := fun wd S l Qv Qd hr q k => by
  match l, hr, q with
  | [(x, d)], hr, q =>
    have r : RepT wd S x d := hr (x, d) (by simp)
    have q : intsP x fun ns => 0 < ns.length ∧ ∀ m, m ∈ ns → (∀ y, y ∈ ns → y ≤ m) → Qv (.p (.int m)) := by cases x <;> exact q
    have q2 : intsOf d S fun ns => 0 < ns.length ∧ ∀ m, m ∈ ns → (∀ y, y ∈ ns → y ≤ m) → Qd (.int m) S := intsP_rep r (let ⟨ns, e, q⟩ := q; ⟨ns, e, q.1, fun m a b => k _ _ _ (q.2 m a b) (Res1.pas repP_int)⟩)
    rcases intsOf_ref q2 with ⟨n, rfl⟩ | ⟨ds, rfl⟩ <;> exact q2
  | [(x, d), (y, e)], hr, q =>
    have r : RepT wd S x d := hr (x, d) (by simp)
    have r2 : RepT wd S y e := hr (y, e) (by simp)
    cases x <;> try exact q.elim
    cases y <;> try exact q.elim
    cases (show d = _ from r)
    cases (show e = _ from r2)
    exact k _ _ _ q (Res1.pas repP_int)
  | [], hr, q => exact q.elim
  | (x, d) :: (y, _) :: _ :: _, hr, q => exact absurd q (by cases x <;> cases y <;> exact id)
theorem sim_min : SimC minC cMin := fun wd S l Qv Qd hr q k => by
  match l, hr, q with
  | [(x, d)], hr, q =>
    have r : RepT wd S x d := hr (x, d) (by simp)
    have q : intsP x fun ns => 0 < ns.length ∧ ∀ m, m ∈ ns → (∀ y, y ∈ ns → m ≤ y) → Qv (.p (.int m)) := by cases x <;> exact q
    have q2 : intsOf d S fun ns => 0 < ns.length ∧ ∀ m, m ∈ ns → (∀ y, y ∈ ns → m ≤ y) → Qd (.int m) S := intsP_rep r (let ⟨ns, e, q⟩ := q; ⟨ns, e, q.1, fun m a b => k _ _ _ (q.2 m a b) (Res1.pas repP_int)⟩)
    rcases intsOf_ref q2 with ⟨n, rfl⟩ | ⟨ds, rfl⟩ <;> exact q2
  | [(x, d), (y, e)], hr, q =>
    have r : RepT wd S x d := hr (x, d) (by simp)
    have r2 : RepT wd S y e := hr (y, e) (by simp)
    cases x <;> try exact q.elim
    cases y <;> try exact q.elim
    cases (show d = _ from r)
    cases (show e = _ from r2)
    exact k _ _ _ q (Res1.pas repP_int)
  | [], hr, q => exact q.elim
  | (x, d) :: (y, _) :: _ :: _, hr, q => exact absurd q (by cases x <;> cases y <;> exact id)
theorem sort_key : ∀ {kds : List (Key × D)} {ks : List Int}, kds.map (fun kv => kP kv.1) = ks.map .int → kds.map (·.1) = ks.map Sum.inl
  | [], [], _ => rfl
  | [], _ :: _, h => by cases h
  | _ :: _, [], h => by cases h
  | a :: r, k :: ks, h => by
    rw [List.map_cons, List.map_cons] at h
    injection h with h1 h2
    rw [List.map_cons, List.map_cons, sort_key h2, kP_inj (b := .inl k) h1]
theorem sim_sort : SimC sortC cSort := fun wd S l Qv Qd hr q k => by
  match l, hr, q with
  | [(x, d)], hr, q =>
    have r : RepT wd S x d := hr (x, d) (by simp)
    have lst : ∀ {x : P} {d : D}, RepT wd S x d → (intsP x fun ns => ∀ ms : List Int, ms.Perm ns → ms.Pairwise (· ≤ ·) → Qv (.o (.lst (ms.map .int)))) → sortC [d] S Qd := fun {x d} r q => by
      have q2 : intsOf d S fun ns => ∀ ms : List Int, ms.Perm ns → ms.Pairwise (· ≤ ·) → Qd (.ref S.length) (S ++ [.lst (ms.map .int)]) := intsP_rep r (let ⟨ns, e, q⟩ := q; ⟨ns, e, fun m a b => k _ _ _ (q m a b) (Res1.newL (repL_int m) keepPush)⟩)
      rcases intsOf_ref q2 with ⟨n, rfl⟩ | ⟨ds, rfl⟩
      · exact .inl q2
      · exact q2
    cases x <;> try exact lst r q
    rename_i t kvs
    match t, q with
    | 0, ⟨ks, e, hl, q'⟩ =>
      obtain ⟨n, ds, rfl, ⟨kds, h, e2, e3⟩, r⟩ := r
      exact .inr ⟨kds, ks, h, sort_key (e3.trans e), hl, fun m a b => k _ _ _ (q' m a b) (Res1.newL (repL_int m) keepPush)⟩
    | n + 1, ⟨ns, e, q⟩ => cases e
  | [], hr, q => exact q.elim
  | (x, d) :: _ :: _, hr, q => exact absurd q (by cases x <;> first | exact id | (rename_i t _; cases t <;> exact id))
end
/-- sorted(set(..)) -/
def sset (x : P) (Q : V' → Prop) : Prop := ∃ ns : List Int, (seqP x = some (ns.map .int) ∨ x = .tup (ns.map .int)) ∧ ns.length ≤ 4000 ∧ ∀ ms : List Int, ms.Pairwise (· < ·) → (∀ k, k ∈ ms ↔ k ∈ ns) → Q (.o (.lst (ms.map .int)))
def vSSet (a : VE) : VE := fun X E Q => a X E fun h E1 => gv (rd E1 h) fun x => sset x fun v => Q (.v v) E1
def vIsi (T : Ty) (a : VE) : VE := fun X E Q => a X E fun h E1 => gv (rd E1 h) fun x => (match x with | .non => some Ty.non | .bl _ => some .bl | .int _ => some .int | .str _ => some .str | .tup _ => some .tup | .lst _ => some .lst | .dct 0 _ => some .dct | .dct 1 _ => some .dct | _ => none).elim False fun t => Q (.v (.p (.bl (isiB t T)))) E1
def rgP (a b : Int) : List P := (List.range (b - a).toNat).map fun i => .int (a + (i : Nat))
def rg2P : List P → (Int → Int → Prop) → Prop
  | [.int n], Q => Q 0 n
  | [.int a, .int b], Q => Q a b
  | _, _ => False
def vLstR (a : VA) : VE := fun X E Q => a X E fun hs E1 => gv (rds E1 hs) fun xs => rg2P xs fun i j => RgOk i j ∧ Q (.v (.o (.lst (rgP i j)))) E1
def vTupR (a : VA) : VE := fun X E Q => a X E fun hs E1 => gv (rds E1 hs) fun xs => rg2P xs fun i j => RgOk i j ∧ Q (.v (.p (.tup (rgP i j)))) E1
def vDct : VE := fun X E Q => Q (.v (.o (.dct 0 []))) E ∨ Q (.v (.o (.dct 1 []))) E
section
variable {a b c : W} {t u : WT} {va vb vc : VE} {vt vu : VT} {wa : WA} {ra : VA}
theorem sim_sset (ha : SimE a va) : SimE (wSSet a) (vSSet va) := fun X E Qv q wd ρ S xq Qd I k x =>
  ha X E _ q wd ρ S xq _ I (fun h1 E1 wd1 d1 S1 q1 I1 T1 r1 => by
    obtain ⟨x, e1, ns, e, hl, q1⟩ := gv_iff.mp q1
    have r := rd_rep I1 r1 e1
    have f : ∀ ms : List Int, ms.Pairwise (· < ·) → (∀ k, k ∈ ms ↔ k ∈ ns) → Qd (.ref S1.length) (S1 ++ [.lst (ms.map .int)]) := fun ms a b => fin1 I1 T1 k (q1 ms a b) (Res1.newL (repL_int ms) keepPush)
    rcases e with e | rfl
    · cases x <;> first | (cases e; done) | skip
      · cases e
        obtain ⟨ds, rfl, r⟩ := r
        exact ⟨ns, repL_ints r, hl, f⟩
      · cases e
        obtain ⟨n, ds, rfl, h, r⟩ := r
        exact ⟨ns, by rw [h, repL_ints r], hl, f⟩
    · obtain ⟨ds, rfl, r⟩ := r
      exact ⟨ns, repL_ints r, hl, f⟩) x
theorem sim_isi {T : Ty} (ha : SimE a va) : SimE (wIsi T a) (vIsi T va) := fun X E Qv q wd ρ S xq Qd I k x =>
  ha X E _ q wd ρ S xq _ I (fun h1 E1 wd1 d1 S1 q1 I1 T1 r1 => by
    obtain ⟨x, e1, q1⟩ := gv_iff.mp q1
    have r := rd_rep I1 r1 e1
    cases x <;> try exact q1.elim
    · cases (show d1 = _ from r); exact fin1 I1 T1 k q1 (Res1.pas repP_bl)
    · cases (show d1 = _ from r); exact fin1 I1 T1 k q1 (Res1.pas repP_bl)
    · cases (show d1 = _ from r); exact fin1 I1 T1 k q1 (Res1.pas repP_bl)
    · cases (show d1 = _ from r); exact fin1 I1 T1 k q1 (Res1.pas repP_bl)
    · obtain ⟨ds, rfl, r⟩ := r; exact fin1 I1 T1 k q1 (Res1.pas repP_bl)
    · obtain ⟨n, ds, rfl, h, r⟩ := r; exact .inl ⟨ds, h, fin1 I1 T1 k q1 (Res1.pas repP_bl)⟩
    · rename_i t kvs
      obtain ⟨n, ds, rfl, h, r⟩ := r
      match t, h, q1 with
      | 0, ⟨kds, h, _⟩, q1 => exact .inr (.inl ⟨kds, h, fin1 I1 T1 k q1 (Res1.pas repP_bl)⟩)
      | 1, ⟨kds, h, _⟩, q1 => exact .inr (.inr ⟨kds, h, fin1 I1 T1 k q1 (Res1.pas repP_bl)⟩)) x
theorem rgP_rep {wd : Wd} {S : Sto} (i j : Int) : RepL wd S (rgP i j) (rgD i j) := by
  unfold rgP rgD
  generalize (j - i).toNat = n
  induction List.range n with
  | nil => rfl
  | cons x r ih => exact RepL.cons repP_int ih
theorem rg2_rep {wd : Wd} {S : Sto} {l : List (P × D)} {Q : Int → Int → Prop} (hr : ∀ p ∈ l, RepT wd S p.1 p.2) (q : rg2P (l.map (·.1)) Q) : rg2 (l.map (·.2)) Q := by
  match l, hr, q with
  | [(x, d)], hr, q =>
    have r : RepT wd S x d := hr (x, d) (by simp)
    cases x <;> try exact q.elim
    cases (show d = _ from r)
    exact q
  | [(x, d), (y, e)], hr, q =>
    have r : RepT wd S x d := hr (x, d) (by simp)
    have r2 : RepT wd S y e := hr (y, e) (by simp)
    cases x <;> try exact q.elim
    cases y <;> try exact q.elim
    cases (show d = _ from r)
    cases (show e = _ from r2)
    exact q
  | [], hr, q => exact q.elim
  | (x, d) :: (y, _) :: _ :: _, hr, q => exact absurd q (by cases x <;> cases y <;> exact id)
theorem rg2P_mono {xs : List P} {Q Q' : Int → Int → Prop} (h : ∀ i j, Q i j → Q' i j) (q : rg2P xs Q) : rg2P xs Q' := by
  unfold rg2P at q ⊢
  split at q <;> first | exact h _ _ q | exact q.elim
theorem sim_lstR (ha : SimA wa ra) : SimE (wLstR wa) (vLstR ra) := fun X E Qv q wd ρ S xq Qd I k x =>
  ha X E _ q wd ρ S xq _ I (fun h1 E1 wd1 d1 S1 q1 I1 T1 r1 => by
    obtain ⟨xs, e, q1⟩ := gv_iff.mp q1
    obtain ⟨l, rfl, rfl, hr⟩ := rds_rep I1 r1 e
    exact rg2_rep hr (rg2P_mono (fun i j z => ⟨z.1, fin1 I1 T1 k z.2 (Res1.newL (rgP_rep i j) keepPush)⟩) q1)) x
theorem sim_tupR (ha : SimA wa ra) : SimE (wTupR wa) (vTupR ra) := fun X E Qv q wd ρ S xq Qd I k x =>
  ha X E _ q wd ρ S xq _ I (fun h1 E1 wd1 d1 S1 q1 I1 T1 r1 => by
    obtain ⟨xs, e, q1⟩ := gv_iff.mp q1
    obtain ⟨l, rfl, rfl, hr⟩ := rds_rep I1 r1 e
    exact rg2_rep hr (rg2P_mono (fun i j z => ⟨z.1, fin1 I1 T1 k z.2 (Res1.pas (repP_tup (rgP_rep i j)))⟩) q1)) x
theorem sim_dct : SimE wDct vDct := fun X E Qv q wd ρ S xq Qd I k x => q.elim
  (fun z => .inl (fin1 I (Step.refl _ _ _ _) k z (.inr ⟨_, _, rfl, rfl, rfl, _, [], rfl, ⟨[], push_at, rfl, rfl⟩, rfl⟩)))
  (fun z => .inr (fin1 I (Step.refl _ _ _ _) k z (.inr ⟨_, _, rfl, rfl, rfl, _, [], rfl, ⟨[], push_at, rfl, rfl⟩, rfl⟩)))

/-! ### methods: those that read -/
def SimMr (ty : D → Sto → Prop) (f : MetD) (tv : P → Prop) (g : VM) : Prop := (∀ wd S x d, RepT wd S x d → tv x → ty d S) ∧
  ∀ wd S x d (l : List (P × D)) (Qv : V' → Prop) (Qd : Q1), RepT wd S x d → (∀ p ∈ l, RepT wd S p.1 p.2) → g x (l.map (·.1)) Qv → (∀ v d S', Qv v → Res1 wd S v d S' → Qd d S') → f d (l.map (·.2)) S Qd
def vMetR (tv : P → Prop) (g : VM) (a : VE) (r : VA) : VE := fun X E Q => a X E fun h E1 => gv (rd E1 h) fun x => tv x ∧ r X E1 fun hs E2 => gv (rds E2 hs) fun xs => gv (rd E2 h) fun x => g x xs fun v => Q (.v v) E2
theorem sim_metR {ty : D → Sto → Prop} {f : MetD} {tv : P → Prop} {g : VM} (hf : SimMr ty f tv g) (ha : SimE a va) (hr : SimA wa ra) : SimE (wMet ty f a wa) (vMetR tv g va ra) := fun X E Qv q wd ρ S xq Qd I k x =>
  ha X E _ q wd ρ S xq _ I (fun h1 E1 wd1 d1 S1 q1 I1 T1 r1 => by
    obtain ⟨x', e1, q0, q1⟩ := gv_iff.mp q1
    refine ⟨hf.1 _ _ _ _ (rd_rep I1 r1 e1) q0, hr X E1 _ q1 wd1 ρ S1 xq _ I1 (fun h2 E2 wd2 d2 S2 q2 I2 T2 r2 => ?_) (x.step T1)⟩
    obtain ⟨xs, e2, q2⟩ := gv_iff.mp q2
    obtain ⟨x', e3, q2⟩ := gv_iff.mp q2
    obtain ⟨l, rfl, rfl, hr⟩ := rds_rep I2 r2 e2
    exact hf.2 _ _ _ _ _ _ _ (rd_rep I2 (r1.step I1 T2) e3) hr q2 fun v d S3 q3 r3 => fin1 I2 (T1.trans T2) k q3 r3) x
def isStr : P → Prop
  | .str _ => True
  | _ => False
def mJoin : VM
  | .str a, [.lst xs], Q => ∃ ys : List Str, xs = ys.map .str ∧ (ys.map (·.length)).sum + ys.length * a.length ≤ 16777216 ∧ Q (.p (.str (Txt.join a ys)))
  | .str a, [.tup xs], Q => ∃ ys : List Str, xs = ys.map .str ∧ (ys.map (·.length)).sum + ys.length * a.length ≤ 16777216 ∧ Q (.p (.str (Txt.join a ys)))
  | _, _, _ => False
theorem repL_strs {wd : Wd} {S : Sto} : ∀ {ns : List Str} {ds : List D}, RepL wd S (ns.map .str) ds → ds = ns.map .str
  | [], _, r => r
  | n :: ns, _, r => by
    obtain ⟨d, s, rfl, r1, _, r2⟩ := r
    rw [List.map_cons, repL_strs r2]
    cases (show d = _ from r1)
    rfl
theorem sim_join : SimMr strTy joinM isStr mJoin := ⟨fun wd S x d r q => by
    cases x <;> try exact q.elim
    cases (show d = _ from r)
    trivial, fun wd S x d l Qv Qd r hr q k => by
    cases x <;> try exact q.elim
    cases (show d = _ from r)
    match l, hr, q with
    | [(y, e)], hr, q =>
      have r2 : RepT wd S y e := hr (y, e) (by simp)
      cases y <;> try exact q.elim
      · obtain ⟨ys, rfl, hl, q⟩ := q
        obtain ⟨ds, rfl, r2⟩ := r2
        exact ⟨ys, repL_strs r2, hl, k _ _ _ q (Res1.pas repP_str)⟩
      · obtain ⟨ys, rfl, hl, q⟩ := q
        obtain ⟨n, ds, rfl, h, r2⟩ := r2
        exact ⟨ys, by rw [h, repL_strs r2], hl, k _ _ _ q (Res1.pas repP_str)⟩
    | [], hr, q => exact q.elim
    | (y, _) :: _ :: _, hr, q => exact absurd q (by cases y <;> exact id)⟩
def isSeq : P → Prop
  | .lst _ => True
  | .fro _ => True
  | _ => False
def idxAtP (x : P) (xs : List P) (j : Nat) : Prop := flatP x = true ∧ xs.all flatP = true ∧ (∃ z, xs[j]? = some z ∧ eqFP z x = true) ∧ ∀ m z, m < j → xs[m]? = some z → eqFP z x = false
def mIdx : VM
  | .lst xs, [x], Q => ∃ j, idxAtP x xs j ∧ Q (.p (.int (j : Nat)))
  | .fro xs, [x], Q => ∃ j, idxAtP x xs j ∧ Q (.p (.int (j : Nat)))
  | _, _, _ => False
theorem all_get {α : Type} {p : α → Bool} : ∀ {xs : List α} {i : Nat} {x : α}, xs.all p = true → xs[i]? = some x → p x = true := fun {xs i x} h e => List.all_eq_true.mp h x (List.mem_of_getElem? e)
theorem idxAt_rep {wd : Wd} {S : Sto} {x : P} {d : D} {xs : List P} {ds : List D} {j : Nat} (rx : RepT wd S x d) (r : RepL wd S xs ds) (h : idxAtP x xs j) : idxAt d ds j := by
  obtain ⟨h1, h2, ⟨z, h3, h4⟩, h5⟩ := h
  refine ⟨flat_rep h1 rx, flats_rep r h2, ?_, fun m z hm hz => ?_⟩
  · obtain ⟨e, e1, r1⟩ := r.get h3
    exact ⟨e, e1, by rw [eqF_rep (all_get h2 h3) h1 r1.1 rx]; exact h4⟩
  · obtain ⟨y, e1, r1⟩ := r.getD hz
    rw [eqF_rep (all_get h2 e1) h1 r1.1 rx]
    exact h5 m y hm e1
theorem sim_mIdx : SimMr seqTy idxM isSeq mIdx := ⟨fun wd S x d r q => by
    cases x <;> try exact q.elim
    · obtain ⟨ds, rfl, _⟩ := r; trivial
    · obtain ⟨n, ds, rfl, h, _⟩ := r; exact ⟨ds, h⟩, fun wd S x d l Qv Qd r hr q k => by
    match l, hr, q with
    | [(y, e)], hr, q =>
      have r2 : RepT wd S y e := hr (y, e) (by simp)
      cases x <;> try exact q.elim
      · obtain ⟨j, h, q⟩ := q
        obtain ⟨ds, rfl, r⟩ := r
        exact ⟨j, idxAt_rep r2 r h, k _ _ _ q (Res1.pas repP_int)⟩
      · obtain ⟨j, h, q⟩ := q
        obtain ⟨n, ds, rfl, h0, r⟩ := r
        exact ⟨ds, j, h0, idxAt_rep r2 r h, k _ _ _ q (Res1.pas repP_int)⟩
    | [], hr, q => exact absurd q (by cases x <;> exact id)
    | _ :: _ :: _, hr, q => exact absurd q (by cases x <;> exact id)⟩
/-! dict.get: what stands behind may be handed on -/
def dctP : P → Option (Nat × List (P × P))
  | .dct 0 kvs => some (0, kvs)
  | .dct 1 kvs => some (1, kvs)
  | _ => none
def getK (t : Nat) (kvs : List (P × P)) : List P → (P → Prop) → Prop
  | [y], Q => KeyOk t y ∧ Q ((getP kvs y).getD .non)
  | [y, z], Q => KeyOk t y ∧ Q ((getP kvs y).getD z)
  | _, _ => False
def vGet (a : VE) (r : VA) : VE := fun X E Q => a X E fun h E1 => gv (rd E1 h) fun x => gv (dctP x) fun _ => r X E1 fun hs E2 => gv (takeL E2 hs) fun tk => gv (rd tk.2 h) fun x => gv (dctP x) fun d => getK d.1 d.2 tk.1 fun y => Q (.v (.p y)) tk.2
theorem dctP_iff {x : P} {d : Nat × List (P × P)} (h : dctP x = some d) : d.1 < 2 ∧ x = .dct d.1 d.2 := by
  unfold dctP at h
  split at h
  · cases h; exact ⟨Nat.zero_lt_two, rfl⟩
  · cases h; exact ⟨Nat.one_lt_two, rfl⟩
  · cases h
theorem sim_get (ha : SimE a va) (hr : SimA wa ra) : SimE (wMet dctTy getM a wa) (vGet va ra) := fun X E Qv q wd ρ S xq Qd I k x =>
  ha X E _ q wd ρ S xq _ I (fun h1 E1 wd1 d1 S1 q1 I1 T1 r1 => by
    obtain ⟨x1, e1, q1⟩ := gv_iff.mp q1
    obtain ⟨⟨t, kvs⟩, e0, q2⟩ := gv_iff.mp q1
    clear q1
    have q1 := q2
    clear q2
    obtain ⟨ht, rfl⟩ := dctP_iff e0
    have ht : t < 2 := ht
    refine ⟨?_, hr X E1 _ q1 wd1 ρ S1 xq _ I1 (fun h2 E2 wd2 d2 S2 q2 I2 T2 r2 => ?_) (x.step T1)⟩
    · obtain ⟨n, ds, rfl, h, r⟩ := rd_rep I1 r1 e1
      match t, ht, h with
      | 0, _, ⟨kds, h, _⟩ => exact .inl ⟨kds, h⟩
      | 1, _, ⟨kds, h, _⟩ => exact .inr ⟨kds, h⟩
    · obtain ⟨⟨xs, E3⟩, e2, p1⟩ := gv_iff.mp q2
      obtain ⟨x2, e3, p2⟩ := gv_iff.mp p1
      obtain ⟨⟨t, kvs⟩, e4, p3⟩ := gv_iff.mp p2
      clear q2 p1
      have hx2 : x2 = .dct t kvs := (dctP_iff e4).2
      clear p2 e4
      subst hx2
      have q2 : getK t kvs xs fun y => Qv (.v (.p y)) E3 := p3
      clear p3
      obtain ⟨wd3, I3, T3, r3⟩ := takeL_ok I2 T2 r2 e2
      obtain ⟨n, ds, rfl, h, r⟩ := rd_rep I3 (r1.step I1 T3) e3
      match xs, r3, q2 with
      | [y], r3, q2 =>
        obtain ⟨d, s, rfl, ry, r4⟩ := r3.uncons
        cases r4
        show dGet n d S2 fun o => Qd (o.getD .non) S2
        refine dGet_rep h r q2.1 ry.1 fun o ho => ?_
        rcases ho with ⟨rfl, z⟩ | ⟨d, x, rfl, z, rx⟩
        · have q3 := q2.2
          rw [z] at q3
          exact fin1 I3 (T1.trans T3) k q3 (Res1.pas repP_non)
        · have q3 := q2.2
          rw [z] at q3
          exact fin1 I3 (T1.trans T3) k q3 (Res1.pas rx)
      | [y, w], r3, q2 =>
        obtain ⟨d, s, rfl, ry, r4⟩ := r3.uncons
        obtain ⟨d4, s4, rfl, rw', r5⟩ := r4.uncons
        cases r5
        show dGet n d S2 fun o => Qd (o.getD d4) S2
        refine dGet_rep h r q2.1 ry.1 fun o ho => ?_
        rcases ho with ⟨rfl, z⟩ | ⟨d, x, rfl, z, rx⟩
        · have q3 := q2.2
          rw [z] at q3
          exact fin1 I3 (T1.trans T3) k q3 (Res1.pas rw')
        · have q3 := q2.2
          rw [z] at q3
          exact fin1 I3 (T1.trans T3) k q3 (Res1.pas rx)
      | [], r3, q2 => exact q2.elim
      | _ :: _ :: _ :: _, r3, q2 => exact q2.elim) x
end
end WW


set_option Elab.async false
set_option linter.all false
set_option maxRecDepth 100000
set_option maxHeartbeats 4000000
set_option autoImplicit false
namespace WW
open PySem PySem.Spec PyProof.Rows L2

/-! ### owned things changed -/
def V'.re : V' → P → V'
  | .o _, y => .o y
  | .io _, y => .io y
  | .p _, y => .p y
  | .b _, y => .b y
section
variable {wd wd0 wd1 wd2 wd' : Wd} {E E0 E1 E2 E' : VEnv} {ρ ρ0 ρ1 ρ2 ρ' : Rho} {S S0 S1 S2 S' : Sto} {X : XV} {xq : XQ} {L : Nat}
theorem re_own {v : V'} {y : P} (h : v.own = true) : (v.re y).own = true := by cases v <;> first | rfl | exact h
theorem re_val {v : V'} {y : P} : (v.re y).val = y := by cases v <;> rfl
theorem lk_self {i : Nat} {y : Option V'} (h : i < E.length) : lk (pt E i y) i = y := by rw [lk_pt, if_pos ⟨rfl, h⟩]
theorem lk_ne {i j : Nat} {y : Option V'} (h : i ≠ j) : lk (pt E i y) j = lk E j := by rw [lk_pt, if_neg (fun z => h z.1)]
theorem own_write {i n : Nat} {v : V'} {x' : P} {ob : O} (I : Inv' wd E ρ S) (h : lk E i = some v) (ho : v.own = true) (hl : look ρ i = some (.ref n))
    (hx : ∀ S', Keep wd S wd S' → S'[n]? = some ob → RepT wd S' x' (.ref n)) : Inv' wd (pt E i (some (v.re x'))) ρ (S.set n ob) ∧ Step wd E ρ S wd (pt E i (some (v.re x'))) ρ (S.set n ob) := by
  have hi := lk_lt h
  have hO : OwnAt E ρ n := ⟨i, v, h, ho, hl⟩
  obtain ⟨o0, e0⟩ := own_at I hO
  have nsh := I.osh n hO
  have same : ∀ m, m ≠ n → (S.set n ob)[m]? = S[m]? := fun m hm => List.getElem?_set_ne (Ne.symm hm)
  have K : Keep wd S wd (S.set n ob) := ⟨fun _ h => h, fun _ _ h => h, fun m o hm e => by
    rw [same m (fun z => by subst z; exact nsh.1 hm)]
    exact e⟩
  have at_n : (S.set n ob)[n]? = some ob := List.getElem?_set_self (at_lt e0)
  have ownE : ∀ m, OwnAt (pt E i (some (v.re x'))) ρ m → OwnAt E ρ m := fun m ⟨j, w, h1, h2, h3⟩ => by
    by_cases e : i = j
    · subst e
      rw [hl] at h3
      cases h3
      exact hO
    · rw [lk_ne e] at h1
      exact ⟨j, w, h1, h2, h3⟩
  refine ⟨⟨by rw [pt_len]; exact I.len, fun j w hw => ?_, fun j k w u m h1 h2 h3 h4 h5 h6 => ?_, fun j x m h1 h2 => ?_, fun m hm => I.osh m (ownE m hm), fun m hm => ?_, fun m φ hm => ?_⟩,
    ⟨by rw [List.length_set]; exact Nat.le_refl _, fun _ h => h, fun _ h => .inl h, fun _ _ h => h, fun _ _ h => .inl h, fun m hm => .inl (ownE m hm), fun m o hm h1 h2 => ?_, fun j x hj => ?_, fun j x hj => ?_, fun j x m hj e => ?_⟩⟩
  · by_cases e : i = j
    · subst e
      rw [lk_self hi] at hw
      cases hw
      refine ⟨.ref n, hl, ?_⟩
      have r := hx _ K at_n
      cases v with
      | o y => exact ⟨r, n, rfl⟩
      | io y => exact ⟨r, n, rfl⟩
      | p y => cases ho
      | b y => cases ho
    · rw [lk_ne e] at hw
      obtain ⟨d, e1, r⟩ := I.rep j w hw
      refine ⟨d, e1, r.keep K ?_⟩
      cases d with
      | ref m =>
        intro o hm
        rw [same m]
        · exact hm
        · rintro rfl
          cases w with
          | o y => exact e (I.one i j _ _ m h hw ho rfl hl e1)
          | io y => exact e (I.one i j _ _ m h hw ho rfl hl e1)
          | p y => exact nsh.1 r.2
          | b y => exact (I.bor j y m hw e1).1 hO
      | _ => trivial
  · have g : ∀ j w, lk (pt E i (some (v.re x'))) j = some w → w.own = true → ∃ w', lk E j = some w' ∧ w'.own = true := fun j w hw hu => by
      by_cases e : i = j
      · subst e; exact ⟨v, h, ho⟩
      · rw [lk_ne e] at hw; exact ⟨w, hw, hu⟩
    obtain ⟨w1, a1, a2⟩ := g j w h1 h3
    obtain ⟨w2, b1, b2⟩ := g k u h2 h4
    exact I.one j k w1 w2 m a1 b1 a2 b2 h5 h6
  · by_cases e : i = j
    · subst e
      rw [lk_self hi] at h1
      cases v with
      | o y => cases h1
      | io y => cases h1
      | p y => cases ho
      | b y => cases ho
    · rw [lk_ne e] at h1
      obtain ⟨a, b⟩ := I.bor j x m h1 h2
      exact ⟨fun z => a (ownE m z), b⟩
  · rw [List.length_set]
    exact I.shl m hm
  · obtain ⟨o, e, q⟩ := I.gok m φ hm
    refine ⟨o, ?_, q⟩
    rw [same m]
    · exact e
    · rintro rfl
      rw [nsh.2] at hm
      cases hm
  · rw [same m]
    · exact hm
    · rintro rfl
      exact h1 hO
  · by_cases e : i = j
    · subst e
      rw [lk_self hi] at hj
      cases v with
      | o y => cases hj
      | io y => cases hj
      | p y => cases ho
      | b y => cases ho
    · rw [lk_ne e] at hj
      exact ⟨hj, rfl⟩
  · by_cases e : i = j
    · subst e
      rw [lk_self hi] at hj
      cases v with
      | o y => cases hj
      | io y => exact ⟨⟨_, h⟩, rfl⟩
      | p y => cases ho
      | b y => cases ho
    · rw [lk_ne e] at hj
      exact ⟨⟨_, hj⟩, rfl⟩
  · by_cases e2 : i = j
    · subst e2
      rw [lk_self hi] at hj
      cases v with
      | o y => exact .inl ⟨i, y, h, e⟩
      | io y => cases hj
      | p y => cases ho
      | b y => cases ho
    · rw [lk_ne e2] at hj
      exact .inl ⟨j, x, hj, e⟩
end
abbrev VMu := P → List P → (P → P → Prop) → Prop
def SimMu (ty : D → Sto → Prop) (f : MetD) (tv : P → Prop) (g : VMu) : Prop := (∀ wd S x d, RepT wd S x d → tv x → ty d S) ∧
  ∀ wd S x n (l : List (P × D)) (Qv : P → P → Prop) (Qd : Q1), RepT wd S x (.ref n) → (∀ p ∈ l, RepP wd S p.1 p.2) → g x (l.map (·.1)) Qv →
    (∀ y x' d ob, Qv y x' → RepP wd S y d → (∀ S', Keep wd S wd S' → S'[n]? = some ob → RepT wd S' x' (.ref n)) → Qd d (S.set n ob)) → f (.ref n) (l.map (·.2)) S Qd
def vMut (tv : P → Prop) (g : VMu) (i : Nat) (r : VA) : VE := fun X E Q => gv (lk E i) fun v => tv v.val ∧ r X E fun hs E1 => gv (takeL E1 hs) fun t => gv (lk t.2 i) fun v => v.own = true ∧ g v.val t.1 fun y x' => Q (.v (.p y)) (pt t.2 i (some (v.re x')))
def isLst : P → Prop
  | .lst _ => True
  | _ => False
def mApp : VMu
  | .lst xs, [x], Q => xs.length < sizeLine ∧ Q .non (.lst (xs ++ [x]))
  | _, _, _ => False
def mPop : VMu
  | .lst xs, [], Q => gv (xs[xs.length - 1]?) fun x => Q x (.lst xs.dropLast)
  | _, _, _ => False
def mExt : VMu
  | .lst xs, [.lst ys], Q => xs.length + ys.length ≤ sizeLine ∧ Q .non (.lst (xs ++ ys))
  | _, _, _ => False
def mPopAt : VMu
  | .lst xs, [.int i], Q => ∃ k, -(2 ^ 63) ≤ i ∧ i < 2 ^ 63 ∧ seqIndex? i xs.length = some k ∧ gv (xs[k]?) fun x => Q x (.lst (xs.eraseIdx k))
  | _, _, _ => False
def mIns : VMu
  | .lst xs, [.int i, x], Q => xs.length < sizeLine ∧ 0 ≤ i ∧ i < 2 ^ 63 ∧ Q .non (.lst (xs.take i.toNat ++ [x] ++ xs.drop i.toNat))
  | _, _, _ => False
section
variable {a b c : W} {t u : WT} {va vb vc : VE} {vt vu : VT} {wa : WA} {ra : VA}
theorem lst_ty : ∀ (wd : Wd) (S : Sto) (x : P) (d : D), RepT wd S x d → isLst x → lstTy d S := fun wd S x d r q => by
  cases x <;> try exact q.elim
  obtain ⟨n, ds, rfl, h, _⟩ := r
  exact ⟨ds, h⟩
theorem lst_re {wd : Wd} {S : Sto} {n : Nat} {xs : List P} {ds : List D} (r : RepL wd S xs ds) : ∀ S', Keep wd S wd S' → S'[n]? = some (.lst ds) → RepT wd S' (.lst xs) (.ref n) := fun S' k e => ⟨n, ds, rfl, e, RepL.keep k _ _ r⟩
theorem dropLast_rep {wd : Wd} {S : Sto} {xs : List P} {ds : List D} (r : RepL wd S xs ds) : RepL wd S xs.dropLast ds.dropLast := by
  rw [List.dropLast_eq_take, List.dropLast_eq_take, r.length]
  exact r.take _
theorem erase_rep {wd : Wd} {S : Sto} : ∀ {xs : List P} {ds : List D} (k : Nat), RepL wd S xs ds → RepL wd S (xs.eraseIdx k) (ds.eraseIdx k)
  | [], _, _, r => by cases r; rfl
  | x :: xs, _, 0, r => by
    obtain ⟨d, s, rfl, _, r2⟩ := r.uncons
    exact r2
  | x :: xs, _, k + 1, r => by
    obtain ⟨d, s, rfl, r1, r2⟩ := r.uncons
    exact RepL.cons r1 (erase_rep k r2)
theorem sim_app : SimMu lstTy appM isLst mApp := ⟨lst_ty, fun wd S x n l Qv Qd r hr q k => by
  cases x <;> try exact q.elim
  obtain ⟨m, ds, e, h, r⟩ := r
  cases e
  match l, hr, q with
  | [(y, d)], hr, q => exact ⟨ds, h, by rw [← r.length]; exact q.1, k _ _ _ _ q.2 repP_non (lst_re (r.app (RepL.one (hr (y, d) (by simp)))))⟩
  | [], hr, q => exact q.elim
  | _ :: _ :: _, hr, q => exact q.elim⟩
theorem sim_pop : SimMu lstTy popM isLst mPop := ⟨lst_ty, fun wd S x n l Qv Qd r hr q k => by
  cases x <;> try exact q.elim
  obtain ⟨m, ds, e, h, r⟩ := r
  cases e
  match l, hr, q with
  | [], hr, q =>
    obtain ⟨y, e, q⟩ := gv_iff.mp q
    rw [r.length] at e
    obtain ⟨d, e1, r1⟩ := r.get e
    exact ⟨ds, h, gv_iff.mpr ⟨d, e1, k _ _ _ _ q r1 (lst_re (dropLast_rep r))⟩⟩
  | _ :: _, hr, q => exact q.elim⟩
theorem sim_ext : SimMu lstTy extM isLst mExt := ⟨lst_ty, fun wd S x n l Qv Qd r hr q k => by
  cases x <;> try exact q.elim
  obtain ⟨m, ds, e, h, r⟩ := r
  cases e
  match l, hr, q with
  | [(y, d)], hr, q =>
    have r2 := hr (y, d) (by simp)
    cases y <;> try exact q.elim
    obtain ⟨⟨m2, es, rfl, h2, r2⟩, _⟩ := r2
    exact ⟨ds, es, h, h2, by rw [← r.length, ← r2.length]; exact q.1, k _ _ _ _ q.2 repP_non (lst_re (r.app r2))⟩
  | [], hr, q => exact q.elim
  | (y, _) :: _ :: _, hr, q => exact absurd q (by cases y <;> exact id)⟩
theorem sim_popAt : SimMu lstTy popAtM isLst mPopAt := ⟨lst_ty, fun wd S x n l Qv Qd r hr q k => by
  cases x <;> try exact q.elim
  obtain ⟨m, ds, e, h, r⟩ := r
  cases e
  match l, hr, q with
  | [(y, d)], hr, q =>
    have r2 := hr (y, d) (by simp)
    cases y <;> try exact q.elim
    cases (show d = _ from r2.1)
    obtain ⟨j, h1, h2, h3, q⟩ := q
    obtain ⟨y, e, q⟩ := gv_iff.mp q
    obtain ⟨d, e1, r1⟩ := r.get e
    exact ⟨ds, j, h, h1, h2, by rw [← r.length]; exact h3, gv_iff.mpr ⟨d, e1, k _ _ _ _ q r1 (lst_re (erase_rep _ r))⟩⟩
  | [], hr, q => exact q.elim
  | (y, _) :: _ :: _, hr, q => exact absurd q (by cases y <;> exact id)⟩
theorem sim_ins : SimMu lstTy insM isLst mIns := ⟨lst_ty, fun wd S x n l Qv Qd r hr q k => by
  cases x <;> try exact q.elim
  obtain ⟨m, ds, e, h, r⟩ := r
  cases e
  match l, hr, q with
  | [(y, d), (z, f)], hr, q =>
    have r2 := hr (y, d) (by simp)
    have r3 := hr (z, f) (by simp)
    cases y <;> try exact q.elim
    cases (show d = _ from r2.1)
    exact ⟨ds, h, by rw [← r.length]; exact q.1, q.2.1, q.2.2.1, k _ _ _ _ q.2.2.2 repP_non (lst_re (((r.take _).app (RepL.one r3)).app (r.drop _)))⟩
  | [], hr, q => exact q.elim
  | [(y, _)], hr, q => exact absurd q (by cases y <;> exact id)
  | (y, _) :: _ :: _ :: _, hr, q => exact absurd q (by cases y <;> exact id)⟩
theorem repL_zip {wd : Wd} {S : Sto} : ∀ {xs : List P} {ds : List D}, RepL wd S xs ds → ∃ l : List (P × D), l.map (·.1) = xs ∧ l.map (·.2) = ds ∧ ∀ p ∈ l, RepP wd S p.1 p.2
  | [], _, r => by cases r; exact ⟨[], rfl, rfl, fun _ h => nomatch h⟩
  | x :: xs, _, r => by
    obtain ⟨d, s, rfl, h1, h2⟩ := r.uncons
    obtain ⟨l, rfl, rfl, c⟩ := repL_zip h2
    refine ⟨(x, d) :: l, rfl, rfl, fun p hp => ?_⟩
    rcases List.mem_cons.mp hp with rfl | hp
    · exact h1
    · exact c p hp
theorem sim_mut {ty : D → Sto → Prop} {f : MetD} {tv : P → Prop} {g : VMu} {i : Nat} (hf : SimMu ty f tv g) (hr : SimA wa ra) : SimE (wMet ty f (wVar i) wa) (vMut tv g i ra) := fun X E Qv q wd ρ S xq Qd I k x => by
  obtain ⟨v, e, q0, q⟩ := gv_iff.mp q
  obtain ⟨d, e1, r⟩ := I.rep i v e
  show gv (look ρ i) fun d => _
  rw [e1]
  refine ⟨hf.1 _ _ _ _ r.top q0, hr X E _ q wd ρ S xq _ I (fun h2 E2 wd2 d2 S2 q2 I2 T2 r2 => ?_) x⟩
  obtain ⟨⟨xs, E3⟩, e2, q2⟩ := gv_iff.mp q2
  obtain ⟨w, e3, ho, q2⟩ := gv_iff.mp q2
  obtain ⟨wd3, I3, T3, r3⟩ := takeL_ok I2 T2 r2 e2
  obtain ⟨d', e4, r4⟩ := I3.rep i w e3
  rw [e1] at e4
  cases e4
  have hn : ∃ n, d = .ref n := by
    cases w with
    | o y => exact r4.2
    | io y => exact r4.2
    | p y => cases ho
    | b y => cases ho
  obtain ⟨n, rfl⟩ := hn
  have hl := repL_zip r3
  obtain ⟨l, rfl, rfl, hl⟩ := hl
  refine hf.2 _ _ _ _ _ _ _ r4.top hl q2 fun y x' d3 ob q3 r5 hx => ?_
  obtain ⟨I4, T4⟩ := own_write I3 e3 ho e1 hx
  exact k _ _ _ _ _ q3 I4 (T3.trans T4) (r5.keep (T4.keep I3))
end

/-! ### statements -/
structure KV where
  nx : VEnv → Prop
  rt : V' → VEnv → Prop
  bk : VEnv → Prop
  ct : VEnv → Prop
  ex : XV
abbrev VS := KV → VEnv → Prop
def RetH (wd : Wd) (E : VEnv) (ρ : Rho) (S : Sto) (wd' : Wd) (E' : VEnv) (ρ' : Rho) (S' : Sto) : V' → D → Prop
  | .p x, d => RepP wd' S' x d
  | .o x, d => RepT wd' S' x d ∧ ∃ n, d = .ref n ∧ ¬ wd'.sh n ∧ wd'.G n = none ∧ ¬ OwnAt E' ρ' n ∧ (S.length ≤ n ∨ ∃ j y, lk E j = some (.o y) ∧ look ρ j = some (.ref n))
  | _, _ => False
structure RefS (kv : KV) (k : KK) (wd : Wd) (E : VEnv) (ρ : Rho) (S : Sto) : Prop where
  nx : ∀ E' wd' ρ' S', kv.nx E' → Inv' wd' E' ρ' S' → Step wd E ρ S wd' E' ρ' S' → k.nx ρ' S'
  rt : ∀ v E' wd' ρ' S' d, kv.rt v E' → Inv' wd' E' ρ' S' → Step wd E ρ S wd' E' ρ' S' → RetH wd E ρ S wd' E' ρ' S' v d → k.rt d S'
  bk : ∀ E' wd' ρ' S', kv.bk E' → Inv' wd' E' ρ' S' → Step wd E ρ S wd' E' ρ' S' → k.bk ρ' S'
  ct : ∀ E' wd' ρ' S', kv.ct E' → Inv' wd' E' ρ' S' → Step wd E ρ S wd' E' ρ' S' → k.ct ρ' S'
  ex : ∀ c fs E' wd' ρ' dfs S', kv.ex c fs E' → Inv' wd' E' ρ' S' → Step wd E ρ S wd' E' ρ' S' → RepF wd' S' fs dfs → k.ex c dfs ρ' S'
def SimS (c : WS) (vs : VS) : Prop := ∀ (kv : KV) (E : VEnv), vs kv E → ∀ (k : KK) (wd : Wd) (ρ : Rho) (S : Sto), Inv' wd E ρ S → RefS kv k wd E ρ S → c k ρ S
section
variable {wd wd0 wd1 wd2 wd' : Wd} {E E0 E1 E2 E' : VEnv} {ρ ρ0 ρ1 ρ2 ρ' : Rho} {S S0 S1 S2 S' : Sto} {kv : KV} {k : KK}
theorem RetH.step (T : Step wd E ρ S wd1 E1 ρ1 S1) {v : V'} {d : D} (r : RetH wd1 E1 ρ1 S1 wd' E' ρ' S' v d) : RetH wd E ρ S wd' E' ρ' S' v d := by
  match v, r with
  | .p x, r => exact r
  | .o x, ⟨r, n, e, h1, h2, h3, h4⟩ =>
    refine ⟨r, n, e, h1, h2, h3, ?_⟩
    rcases h4 with h4 | ⟨j, y, h5, h6⟩
    · exact .inl (Nat.le_trans T.len h4)
    · exact (T.oo j y n h5 h6).symm
theorem RefS.step (R : RefS kv k wd E ρ S) (T : Step wd E ρ S wd1 E1 ρ1 S1) : RefS kv k wd1 E1 ρ1 S1 :=
  ⟨fun E' wd' ρ' S' q I t => R.nx _ _ _ _ q I (T.trans t), fun v E' wd' ρ' S' d q I t r => R.rt _ _ _ _ _ _ q I (T.trans t) (r.step T), fun E' wd' ρ' S' q I t => R.bk _ _ _ _ q I (T.trans t), fun E' wd' ρ' S' q I t => R.ct _ _ _ _ q I (T.trans t),
    fun c fs E' wd' ρ' dfs S' q I t r => R.ex _ _ _ _ _ _ _ q I (T.trans t) r⟩
theorem RefS.xok (R : RefS kv k wd E ρ S) : XOk kv.ex wd E ρ S (fun c fs S => k.ex c fs ρ S) := fun c fs E' wd' dfs S' q I t r => R.ex c fs E' wd' ρ dfs S' q I t r
/-- a slot gets a passive value -/
theorem put_pas {i : Nat} {x : P} {d : D} (I : Inv' wd E ρ S) (r : RepP wd S x d) : Inv' wd (pt E i (some (.p x))) (putR ρ i (some d)) S ∧ Step wd E ρ S wd (pt E i (some (.p x))) (putR ρ i (some d)) S := by
  have ne : ∀ j v, lk (pt E i (some (.p x))) j = some v → (∀ y, v ≠ .p y) → i ≠ j ∧ lk E j = some v ∧ look (putR ρ i (some d)) j = look ρ j := fun j v h hn => by
    by_cases e : i = j
    · subst e
      rw [lk_pt] at h
      split at h
      · cases h; exact absurd rfl (hn x)
      · rename_i z
        have := lk_lt h
        exact absurd ⟨rfl, this⟩ z
    · rw [lk_ne e] at h
      exact ⟨e, h, by rw [look_putR, if_neg (fun z => e z.1)]⟩
  have own : ∀ n, OwnAt (pt E i (some (.p x))) (putR ρ i (some d)) n → OwnAt E ρ n := fun n ⟨j, v, h1, h2, h3⟩ => by
    obtain ⟨_, h4, h5⟩ := ne j v h1 (fun y z => by subst z; cases h2)
    exact ⟨j, v, h4, h2, by rw [← h5]; exact h3⟩
  refine ⟨⟨by rw [pt_len, putR_len]; exact I.len, fun j v h => ?_, fun j j' v w n h1 h2 h3 h4 h5 h6 => ?_, fun j y n h1 h2 => ?_, fun n h => I.osh n (own n h), I.shl, I.gok⟩,
    ⟨Nat.le_refl _, fun _ h => h, fun _ h => .inl h, fun _ _ h => h, fun _ _ h => .inl h, fun n h => .inl (own n h), fun _ _ h _ _ => h, fun j y h => ?_, fun j y h => ?_, fun j y n h e => ?_⟩⟩
  · by_cases e : i = j ∧ i < E.length
    · rw [lk_pt, if_pos e] at h
      cases h
      exact ⟨d, by rw [look_putR, if_pos ⟨e.1, by rw [← I.len]; exact e.2⟩], r⟩
    · rw [lk_pt, if_neg e] at h
      obtain ⟨d', e1, r1⟩ := I.rep j v h
      exact ⟨d', by rw [look_putR, if_neg (fun z => e ⟨z.1, by rw [I.len]; exact z.2⟩)]; exact e1, r1⟩
  · obtain ⟨_, a1, a2⟩ := ne j v h1 (fun y z => by subst z; cases h3)
    obtain ⟨_, b1, b2⟩ := ne j' w h2 (fun y z => by subst z; cases h4)
    exact I.one j j' v w n a1 b1 h3 h4 (by rw [← a2]; exact h5) (by rw [← b2]; exact h6)
  · obtain ⟨_, a1, a2⟩ := ne j _ h1 (fun y z => by cases z)
    obtain ⟨p, q⟩ := I.bor j y n a1 (by rw [← a2]; exact h2)
    exact ⟨fun z => p (own n z), q⟩
  · obtain ⟨_, a1, a2⟩ := ne j _ h (fun y z => by cases z)
    exact ⟨a1, a2⟩
  · obtain ⟨_, a1, a2⟩ := ne j _ h (fun y z => by cases z)
    exact ⟨⟨_, a1⟩, a2⟩
  · obtain ⟨_, a1, a2⟩ := ne j _ h (fun y z => by cases z)
    exact .inl ⟨j, y, a1, by rw [← a2]; exact e⟩
/-- a slot gets a fresh owned thing -/
theorem put_own {i n : Nat} {x : P} (I0 : Inv' wd0 E0 ρ0 S0) (I : Inv' wd E ρ S) (T : Step wd0 E0 ρ0 S0 wd E ρ S) (r : RepT wd S x (.ref n)) (hL : S0.length ≤ n) (h1 : ¬ wd.sh n) (h2 : wd.G n = none) (h3 : ¬ OwnAt E ρ n) :
    Inv' wd (pt E i (some (.o x))) (putR ρ i (some (.ref n))) S ∧ Step wd0 E0 ρ0 S0 wd (pt E i (some (.o x))) (putR ρ i (some (.ref n))) S := by
  have cs : ∀ j v, lk (pt E i (some (.o x))) j = some v → (i = j ∧ i < E.length ∧ v = .o x ∧ look (putR ρ i (some (.ref n))) j = some (.ref n)) ∨ (lk E j = some v ∧ look (putR ρ i (some (.ref n))) j = look ρ j) := fun j v h => by
    by_cases e : i = j ∧ i < E.length
    · rw [lk_pt, if_pos e] at h
      cases h
      exact .inl ⟨e.1, e.2, rfl, by rw [look_putR, if_pos ⟨e.1, by rw [← I.len]; exact e.2⟩]⟩
    · rw [lk_pt, if_neg e] at h
      exact .inr ⟨h, by rw [look_putR, if_neg (fun z => e ⟨z.1, by rw [I.len]; exact z.2⟩)]⟩
  have own : ∀ m, OwnAt (pt E i (some (.o x))) (putR ρ i (some (.ref n))) m → OwnAt E ρ m ∨ m = n := fun m ⟨j, v, a, b, c⟩ => by
    rcases cs j v a with ⟨e1, _, rfl, e⟩ | ⟨e1, e⟩
    · rw [e] at c; cases c; exact .inr rfl
    · exact .inl ⟨j, v, e1, b, by rw [← e]; exact c⟩
  have bor : ∀ j y, lk E j = some (.b y) → look ρ j ≠ some (.ref n) := fun j y hb he => by
    obtain ⟨g1, g2⟩ := T.bor j y hb
    rw [he] at g2
    obtain ⟨d, e1, r1⟩ := I0.rep j _ g1
    rw [← g2] at e1
    cases e1
    obtain ⟨o, ho⟩ := RepT.at_ r1
    have := at_lt ho
    omega
  refine ⟨⟨by rw [pt_len, putR_len]; exact I.len, fun j v h => ?_, fun j j' v w m a b c d e f => ?_, fun j y m a b => ?_, fun m h => ?_, I.shl, I.gok⟩,
    ⟨T.len, T.shm, T.shn, T.Gm, T.Gn, fun m h => ?_, T.fr, fun j y h => ?_, fun j y h => ?_, fun j y m h e => ?_⟩⟩
  · rcases cs j v h with ⟨e1, _, rfl, e⟩ | ⟨e1, e⟩
    · exact ⟨_, e, r, n, rfl⟩
    · obtain ⟨d, e2, r2⟩ := I.rep j v e1
      exact ⟨d, e.trans e2, r2⟩
  · rcases cs j v a with ⟨e1, _, rfl, e2⟩ | ⟨e1, e2⟩
    · rw [e2] at e
      cases e
      rcases cs j' w b with ⟨g1, _, rfl, g2⟩ | ⟨g1, g2⟩
      · exact e1.symm.trans g1
      · exact absurd ⟨j', w, g1, d, by rw [← g2]; exact f⟩ h3
    · rcases cs j' w b with ⟨g1, _, rfl, g2⟩ | ⟨g1, g2⟩
      · rw [g2] at f
        cases f
        exact absurd ⟨j, v, e1, c, by rw [← e2]; exact e⟩ h3
      · exact I.one j j' v w m e1 g1 c d (by rw [← e2]; exact e) (by rw [← g2]; exact f)
  · rcases cs j _ a with ⟨_, _, e, _⟩ | ⟨e1, e2⟩
    · cases e
    · rw [e2] at b
      obtain ⟨p, q⟩ := I.bor j y m e1 b
      refine ⟨fun z => ?_, q⟩
      rcases own m z with z | rfl
      · exact p z
      · exact bor j y e1 b
  · rcases own m h with z | rfl
    · exact I.osh m z
    · exact ⟨h1, h2⟩
  · rcases own m h with z | rfl
    · exact T.own m z
    · exact .inr hL
  · rcases cs j _ h with ⟨_, _, e, _⟩ | ⟨e1, e2⟩
    · cases e
    · rw [e2]; exact T.bor j y e1
  · rcases cs j _ h with ⟨_, _, e, _⟩ | ⟨e1, e2⟩
    · cases e
    · rw [e2]; exact T.io j y e1
  · rcases cs j _ h with ⟨_, _, _, e2⟩ | ⟨e1, e2⟩
    · rw [e2] at e; cases e; exact .inr hL
    · rw [e2] at e; exact T.oo j y m e1 e
end
def asgTo (i : Nat) (h : Hd) (E : VEnv) (Q : VEnv → Prop) : Prop := match h with
  | .slot j => gv (take1 E (.slot j)) fun t => Q (pt t.2 i (some (.p t.1)))
  | .v v => Q (pt E i (some v))
theorem asg_ok {wd wd1 : Wd} {E E1 : VEnv} {ρ : Rho} {S S1 : Sto} {i : Nat} {h : Hd} {d : D} {Q : VEnv → Prop} (I : Inv' wd E ρ S) (I1 : Inv' wd1 E1 ρ S1) (T1 : Step wd E ρ S wd1 E1 ρ S1) (r1 : RepH wd1 E1 ρ S1 S.length h d) (q : asgTo i h E1 Q) :
    ∃ E' wd', Q E' ∧ Inv' wd' E' (putR ρ i (some d)) S1 ∧ Step wd E ρ S wd' E' (putR ρ i (some d)) S1 := by
  match h, r1, q with
  | .slot j, r1, q =>
    obtain ⟨⟨x, E2⟩, e, q⟩ := gv_iff.mp q
    obtain ⟨wd2, I2, T2, r2⟩ := take1_ok I1 T1 r1 e
    obtain ⟨I3, T3⟩ := put_pas (i := i) I2 r2
    exact ⟨_, _, q, I3, T2.trans T3⟩
  | .v (.p x), r1, q =>
    obtain ⟨I3, T3⟩ := put_pas (i := i) I1 r1
    exact ⟨_, _, q, I3, T1.trans T3⟩
  | .v (.o x), ⟨r, n, e, h0, h1, h2, h3⟩, q =>
    subst e
    obtain ⟨I3, T3⟩ := put_own (i := i) I I1 T1 r h0 h1 h2 h3
    exact ⟨_, _, q, I3, T3⟩
def bindVL : List Nat → List P → VEnv → Option VEnv
  | [], [], E => some E
  | i :: is, x :: xs, E => bindVL is xs (pt E i (some (.p x)))
  | _, _, _ => none
def bindVP : Pat → P → VEnv → Option VEnv
  | .nm n, x, E => some (pt E n (some (.p x)))
  | .tp is, .tup xs, E => bindVL is xs E
  | _, _, _ => none
theorem bindVL_ok {wd : Wd} {S : Sto} : ∀ {is : List Nat} {xs : List P} {ds : List D} {E E' : VEnv} {ρ : Rho}, Inv' wd E ρ S → RepL wd S xs ds → bindVL is xs E = some E' → ∃ ρ', bindL is ds ρ = some ρ' ∧ Inv' wd E' ρ' S ∧ Step wd E ρ S wd E' ρ' S
  | [], [], _, E, E', ρ, I, r, e => by
    cases r
    cases e
    exact ⟨ρ, rfl, I, Step.refl _ _ _ _⟩
  | i :: is, x :: xs, _, E, E', ρ, I, r, e => by
    obtain ⟨d, s, rfl, r1, r2⟩ := r.uncons
    obtain ⟨I1, T1⟩ := put_pas (i := i) I r1
    obtain ⟨ρ', e1, I2, T2⟩ := bindVL_ok I1 r2 e
    exact ⟨ρ', e1, I2, T1.trans T2⟩
  | [], _ :: _, _, _, _, _, _, _, e => by cases e
  | _ :: _, [], _, _, _, _, _, _, e => by cases e
theorem bindVP_ok {wd : Wd} {S : Sto} {p : Pat} {x : P} {d : D} {E E' : VEnv} {ρ : Rho} (I : Inv' wd E ρ S) (r : RepP wd S x d) (e : bindVP p x E = some E') : ∃ ρ', bindP p d ρ = some ρ' ∧ Inv' wd E' ρ' S ∧ Step wd E ρ S wd E' ρ' S := by
  cases p with
  | nm n =>
    cases e
    obtain ⟨I1, T1⟩ := put_pas (i := n) I r
    exact ⟨_, rfl, I1, T1⟩
  | tp is =>
    cases x <;> first | (cases e; done) | skip
    obtain ⟨⟨ds, rfl, r⟩, _⟩ := r
    exact bindVL_ok I r e
def vAsg (i : Nat) (a : VE) : VS := fun kv E => a kv.ex E fun h E1 => asgTo i h E1 kv.nx
def isTupP : P → Prop
  | .tup _ => True
  | .lst _ => True
  | _ => False
/-- the items are bound -/
def bindVA : Pat → P → VEnv → Option VEnv
  | .tp is, .tup xs, E => bindVL is xs E
  | .tp is, .lst xs, E => bindVL is xs E
  | _, _, _ => none
def vAsgP (p : Pat) (a : VE) : VS := fun kv E => a kv.ex E fun h E1 => gv (rd E1 h) fun x => isTupP x ∧ gv (bindVA p x E1) kv.nx
noncomputable def putP (kvs : List (P × P)) (k x : P) : List (P × P) := if (kvs.any fun kv => decide (kv.1 = k)) = true then kvs.map (fun kv => if kv.1 = k then (kv.1, x) else kv) else kvs ++ [(k, x)]
def setP : P → P → P → (P → Prop) → Prop
  | .lst xs, .int i, v, Q => gv (ixN xs.length i) fun j => Q (.lst (xs.set j v))
  | .dct t kvs, y, v, Q => t < 2 ∧ KeyOk t y ∧ kvs.length < sizeLine ∧ Q (.dct t (putP kvs y v))
  | _, _, _, _ => False
def vSet (j : Nat) (i v : VE) : VS := fun kv E => v kv.ex E fun hv E1 => gv (lk E1 j) fun _ => i kv.ex E1 fun hi E2 => gv (rd E2 hi) fun z => gv (take1 E2 hv) fun t => gv (lk t.2 j) fun w => w.own = true ∧ setP w.val z t.1 fun x' => kv.nx (pt t.2 j (some (w.re x')))
def vDrop (a : VE) : VS := fun kv E => a kv.ex E fun _ E1 => kv.nx E1
def retTo (h : Hd) (E : VEnv) (Q : V' → VEnv → Prop) : Prop := match h with
  | .slot j => gv (lk E j) fun v => match v with
    | .p x => Q (.p x) E
    | .o x => Q (.o x) (pt E j none)
    | _ => False
  | .v v => Q v E
def vRet (a : VE) : VS := fun kv E => a kv.ex E fun h E1 => retTo h E1 kv.rt
def vRetN : VS := fun kv E => kv.rt (.p .non) E
def vBrk : VS := fun kv E => kv.bk E
def vCnt : VS := fun kv E => kv.ct E
def vPas : VS := fun kv E => kv.nx E
def vSq (a b : VS) : VS := fun kv E => a { kv with nx := b kv } E
def vIfS (t : VT) (a b : VS) : VS := fun kv E => t kv.ex E fun c E1 => if c = true then a kv E1 else b kv E1
def vIt (t : VT) (b : VS) (kv : KV) : Nat → VEnv → Prop
  | 0, _ => False
  | m + 1, E => t kv.ex E fun c E1 => if c = true then b { kv with nx := vIt t b kv m, ct := vIt t b kv m, bk := kv.nx } E1 else kv.nx E1
def vWhl (t : VT) (b : VS) : VS := fun kv E => ∃ m, vIt t b kv m E
section
variable {a b c : W} {t u : WT} {va vb vc : VE} {vt vu : VT} {wa : WA} {ra : VA} {x y : WS} {vx vy : VS}
theorem sim_asg {i : Nat} (ha : SimE a va) : SimS (wAsg i a) (vAsg i va) := fun kv E q k wd ρ S I R =>
  ha _ _ _ q wd ρ S _ _ I (fun h E1 wd1 d S1 q1 I1 T1 r1 => by
    obtain ⟨E2, wd2, q2, I2, T2⟩ := asg_ok I I1 T1 r1 q1
    exact R.nx _ _ _ _ q2 I2 T2) R.xok
theorem sim_asgP {p : Pat} (ha : SimE a va) : SimS (wAsgP p a) (vAsgP p va) := fun kv E q k wd ρ S I R =>
  ha _ _ _ q wd ρ S _ _ I (fun h E1 wd1 d S1 q1 I1 T1 r1 => by
    obtain ⟨x, e, ht, q1⟩ := gv_iff.mp q1
    obtain ⟨E2, e2, q2⟩ := gv_iff.mp q1
    have r := rd_rep I1 r1 e
    cases p with
    | nm i => cases x <;> cases e2
    | tp is =>
      cases x <;> try exact ht.elim
      · obtain ⟨ds, rfl, r⟩ := r
        obtain ⟨ρ', e3, I2, T2⟩ := bindVL_ok I1 r e2
        exact gv_iff.mpr ⟨ρ', e3, R.nx _ _ _ _ q2 I2 (T1.trans T2)⟩
      · obtain ⟨n, ds, rfl, hn, r⟩ := r
        obtain ⟨ρ', e3, I2, T2⟩ := bindVL_ok I1 r e2
        refine gv_iff.mpr ⟨ρ', ?_, R.nx _ _ _ _ q2 I2 (T1.trans T2)⟩
        show (match S1[n]? with | some (.lst ds) => bindL is ds ρ | _ => none) = some ρ'
        rw [hn]
        exact e3) R.xok
theorem put_rep {κ : Type} [DecidableEq κ] {f : κ → P} (inj : ∀ a b, f a = f b → a = b) {wd : Wd} {S : Sto} {k : κ} {x : P} {d : D} (rx : RepP wd S x d) {kvs : List (P × P)} {kds : List (κ × D)} (r : RepK wd S kvs (kds.map (·.2))) (e : kds.map (fun kv => f kv.1) = kvs.map (·.1)) :
    RepK wd S (putP kvs (f k) x) ((putA kds k d).map (·.2)) ∧ (putA kds k d).map (fun kv => f kv.1) = (putP kvs (f k) x).map (·.1) := by
  have any : ∀ {kvs : List (P × P)} {kds : List (κ × D)}, kds.map (fun kv => f kv.1) = kvs.map (·.1) → (kds.any fun kv => decide (kv.1 = k)) = kvs.any fun kv => decide (kv.1 = f k) := by
    intro kvs
    induction kvs with
    | nil => intro kds e; cases kds with
      | nil => rfl
      | cons _ _ => cases e
    | cons kv kvs ih => intro kds e; cases kds with
      | nil => cases e
      | cons a r =>
        rw [List.map_cons, List.map_cons] at e
        injection e with e1 e2
        rw [List.any_cons, List.any_cons, ih e2]
        congr 1
        rw [decide_eq_decide, ← e1]
        exact ⟨fun h => by rw [h], fun h => inj _ _ h⟩
  have repl : ∀ {kvs : List (P × P)} {kds : List (κ × D)}, RepK wd S kvs (kds.map (·.2)) → kds.map (fun kv => f kv.1) = kvs.map (·.1) →
      RepK wd S (kvs.map fun kv => if kv.1 = f k then (kv.1, x) else kv) ((kds.map fun kv => if kv.1 = k then (kv.1, d) else kv).map (·.2)) ∧ (kds.map fun kv => if kv.1 = k then (kv.1, d) else kv).map (fun kv => f kv.1) = (kvs.map fun kv => if kv.1 = f k then (kv.1, x) else kv).map (·.1) := by
    intro kvs
    induction kvs with
    | nil => intro kds r e; cases kds with
      | nil => exact ⟨rfl, rfl⟩
      | cons _ _ => cases e
    | cons kv kvs ih => intro kds r e; cases kds with
      | nil => cases e
      | cons a s =>
        rw [List.map_cons, List.map_cons] at e
        injection e with e1 e2
        obtain ⟨d', s', e3, r1, r2, r3⟩ := r
        rw [List.map_cons] at e3
        injection e3 with e3 e4
        subst e4
        obtain ⟨g1, g2⟩ := ih r3 e2
        rw [List.map_cons, List.map_cons, List.map_cons, List.map_cons, List.map_cons, g2]
        by_cases h : a.1 = k
        · have h' : kv.1 = f k := by rw [← e1, h]
          rw [if_pos h, if_pos h']
          exact ⟨⟨d, _, rfl, rx.1, rx.2, g1⟩, by rw [show (a.1, d).1 = a.1 from rfl, e1]⟩
        · have h' : ¬ kv.1 = f k := fun z => h (inj _ _ (e1.trans z))
          rw [if_neg h, if_neg h']
          exact ⟨⟨a.2, _, rfl, by rw [e3]; exact r1, by rw [e3]; exact r2, g1⟩, by rw [e1]⟩
  have app : ∀ {kvs : List (P × P)} {ds : List D}, RepK wd S kvs ds → RepK wd S (kvs ++ [(f k, x)]) (ds ++ [d]) := by
    intro kvs
    induction kvs with
    | nil => intro ds r; cases r; exact ⟨d, [], rfl, rx.1, rx.2, rfl⟩
    | cons kv kvs ih => intro ds r; obtain ⟨d', s', rfl, r1, r2, r3⟩ := r; exact ⟨d', _, rfl, r1, r2, ih r3⟩
  unfold putA putP
  rw [any e]
  split
  · exact repl r e
  · refine ⟨by rw [List.map_append]; exact app r, by rw [List.map_append, List.map_append, e]; rfl⟩
theorem sim_set {j : Nat} {wi wv : W} {vi vv : VE} (hi : SimE wi vi) (hv : SimE wv vv) : SimS (wSet (wVar j) wi wv) (vSet j vi vv) := fun kv E q k wd ρ S I R =>
  hv _ _ _ q wd ρ S _ _ I (fun h E1 wd1 d S1 q1 I1 T1 r1 => by
    obtain ⟨v, e, q1⟩ := gv_iff.mp q1
    obtain ⟨dx, e1, rx⟩ := I1.rep j v e
    show gv (look ρ j) fun x => _
    rw [e1]
    refine hi _ _ _ q1 wd1 ρ S1 _ _ I1 (fun h2 E2 wd2 d2 S2 q2 I2 T2 r2 => ?_) (R.xok.step T1)
    obtain ⟨z, e2, q2⟩ := gv_iff.mp q2
    obtain ⟨⟨y, E3⟩, e3, q2⟩ := gv_iff.mp q2
    obtain ⟨w, e4, ho, q2⟩ := gv_iff.mp q2
    have rz := rd_rep I2 r2 e2
    obtain ⟨wd3, I3, T3, r3⟩ := take1_ok I2 (T1.trans T2) (r1.step I1 T2) e3
    obtain ⟨d', e5, r5⟩ := I3.rep j w e4
    rw [e1] at e5
    cases e5
    have hn : ∃ n, dx = .ref n := by
      cases w with
      | o y => exact r5.2
      | io y => exact r5.2
      | p y => cases ho
      | b y => cases ho
    obtain ⟨n, rfl⟩ := hn
    have fin : ∀ x' ob, kv.nx (pt E3 j (some (w.re x'))) → (∀ S', Keep wd3 S2 wd3 S' → S'[n]? = some ob → RepT wd3 S' x' (.ref n)) → k.nx ρ (S2.set n ob) := fun x' ob q hx => by
      obtain ⟨I4, T4⟩ := own_write I3 e4 ho e1 hx
      exact R.nx _ _ _ _ q I4 (T3.trans T4)
    have rw' := r5.top
    revert q2 rw'
    generalize w.val = xx
    intro q2 rw'
    cases xx <;> try exact q2.elim
    · cases z <;> try exact q2.elim
      cases (show d2 = _ from rz)
      obtain ⟨m, ds, em, hm, rl⟩ := rw'
      cases em
      obtain ⟨i, ei, q2⟩ := gv_iff.mp q2
      exact .inl ⟨ds, _, rfl, hm, gv_iff.mpr ⟨i, by rw [← rl.length]; exact ei, fin _ _ q2 (lst_re (rl.set i r3))⟩⟩
    · rename_i t kvs
      obtain ⟨m, ds, em, hm, rl⟩ := rw'
      cases em
      have q2 : t < 2 ∧ KeyOk t z ∧ kvs.length < sizeLine ∧ kv.nx (pt E3 j (some (w.re (.dct t (putP kvs z y))))) := by cases z <;> exact q2
      obtain ⟨ht, hk, hl, q2⟩ := q2
      have hlen := hm.len
      rw [List.length_map] at hlen
      have : (∃ ds i, d2 = .int i ∧ S2[n]? = some (.lst ds) ∧ gv (ixN ds.length i) fun j => k.nx ρ (S2.set n (.lst (ds.set j d)))) ∨ dPut n d2 d S2 fun S => k.nx ρ S := by
        refine .inr ?_
        match t, ht, hm, hk, q2 with
        | 0, _, ⟨kds, g1, g2, g3⟩, ⟨key, g4⟩, q2 =>
          subst g2 g4
          obtain ⟨p1, p2⟩ := put_rep (fun a b => kP_inj) (k := key) r3 rl g3
          refine .inl ⟨kds, key, g1, keyD_kP rz, by rw [← List.length_map (f := (·.2)), hlen]; exact hl, fin _ _ q2 fun S' K' e => ⟨n, _, rfl, ⟨_, e, rfl, p2⟩, RepK.keep K' _ _ p1⟩⟩
        | 1, _, ⟨kds, g1, g2, g3⟩, ⟨key, g4⟩, q2 =>
          subst g2 g4
          obtain ⟨dz, rfl, rz⟩ := rz
          obtain ⟨p1, p2⟩ := put_rep (f := fun ks => P.tup (ks.map kP)) (fun a b z => kPs_inj (by injection z)) (k := key) r3 rl g3
          refine .inr ⟨kds, key, g1, keysD_kP rz, by rw [← List.length_map (f := (·.2)), hlen]; exact hl, fin _ _ q2 fun S' K' e => ⟨n, _, rfl, ⟨_, e, rfl, p2⟩, RepK.keep K' _ _ p1⟩⟩
      exact this) R.xok
theorem sim_drop (ha : SimE a va) : SimS (wDrop a) (vDrop va) := fun kv E q k wd ρ S I R =>
  ha _ _ _ q wd ρ S _ _ I (fun h E1 wd1 d S1 q1 I1 T1 r1 => R.nx _ _ _ _ q1 I1 T1) R.xok
/-- an owned slot is given away -/
theorem give {wd0 wd : Wd} {E0 E : VEnv} {ρ0 ρ : Rho} {S0 S : Sto} {j : Nat} (I : Inv' wd E ρ S) (T : Step wd0 E0 ρ0 S0 wd E ρ S) : Inv' wd (pt E j none) ρ S ∧ Step wd0 E0 ρ0 S0 wd (pt E j none) ρ S := by
  have ne : ∀ i v, lk (pt E j none) i = some v → lk E i = some v := fun i v h => by
    rw [lk_pt] at h
    split at h
    · cases h
    · exact h
  have own : ∀ n, OwnAt (pt E j none) ρ n → OwnAt E ρ n := fun n ⟨i, v, h1, h2, h3⟩ => ⟨i, v, ne i v h1, h2, h3⟩
  exact ⟨⟨by rw [pt_len]; exact I.len, fun i v h => I.rep i v (ne i v h), fun i i' v w n h1 h2 => I.one i i' v w n (ne _ _ h1) (ne _ _ h2), fun i x n h e => ⟨fun z => (I.bor i x n (ne _ _ h) e).1 (own n z), (I.bor i x n (ne _ _ h) e).2⟩, fun n h => I.osh n (own n h), I.shl, I.gok⟩,
    ⟨T.len, T.shm, T.shn, T.Gm, T.Gn, fun n h => T.own n (own n h), T.fr, fun i x h => T.bor i x (ne _ _ h), fun i x h => T.io i x (ne _ _ h), fun i x n h => T.oo i x n (ne _ _ h)⟩⟩
theorem sim_ret (ha : SimE a va) : SimS (wRet a) (vRet va) := fun kv E q k wd ρ S I R =>
  ha _ _ _ q wd ρ S _ _ I (fun h E1 wd1 d S1 q1 I1 T1 r1 => by
    match h, r1, q1 with
    | .slot j, r1, q1 =>
      obtain ⟨v, e, q1⟩ := gv_iff.mp q1
      obtain ⟨d', e1, r⟩ := I1.rep j v e
      have r1 : look ρ j = some d := r1
      rw [r1] at e1
      cases e1
      match v, e, r, q1 with
      | .p x, e, r, q1 => exact R.rt _ _ _ _ _ _ q1 I1 T1 r
      | .o x, e, ⟨r, n, en⟩, q1 =>
        subst en
        obtain ⟨I2, T2⟩ := give (j := j) I1 T1
        have hO : OwnAt E1 ρ n := ⟨j, _, e, rfl, r1⟩
        refine R.rt _ _ _ _ _ _ q1 I2 T2 ⟨r, n, rfl, (I1.osh n hO).1, (I1.osh n hO).2, ?_, (T1.oo j x n e r1).symm⟩
        rintro ⟨i, w, h1, h2, h3⟩
        rw [lk_pt] at h1
        split at h1
        · cases h1
        · rename_i z
          have := I1.one j i _ _ n e h1 rfl h2 r1 h3
          exact z ⟨this, lk_lt e⟩
    | .v (.p x), r1, q1 => exact R.rt _ _ _ _ _ _ q1 I1 T1 r1
    | .v (.o x), ⟨r, n, e, h0, h1, h2, h3⟩, q1 => exact R.rt _ _ _ _ _ _ q1 I1 T1 ⟨r, n, e, h1, h2, h3, .inl h0⟩) R.xok
theorem sim_retN : SimS wRetN vRetN := fun kv E q k wd ρ S I R => R.rt _ _ _ _ _ _ q I (Step.refl _ _ _ _) repP_non
theorem sim_brk : SimS wBrk vBrk := fun kv E q k wd ρ S I R => R.bk _ _ _ _ q I (Step.refl _ _ _ _)
theorem sim_cnt : SimS wCnt vCnt := fun kv E q k wd ρ S I R => R.ct _ _ _ _ q I (Step.refl _ _ _ _)
theorem sim_pas : SimS wPas vPas := fun kv E q k wd ρ S I R => R.nx _ _ _ _ q I (Step.refl _ _ _ _)
theorem sim_sq (hx : SimS x vx) (hy : SimS y vy) : SimS (wSq x y) (vSq vx vy) := fun kv E q k wd ρ S I R =>
  hx _ _ q _ wd ρ S I ⟨fun E' wd' ρ' S' q1 I1 T1 => hy _ _ q1 _ _ _ _ I1 (R.step T1), R.rt, R.bk, R.ct, R.ex⟩
theorem sim_ifS (ht : SimT t vt) (hx : SimS x vx) (hy : SimS y vy) : SimS (wIfS t x y) (vIfS vt vx vy) := fun kv E q k wd ρ S I R =>
  ht _ _ _ q wd ρ S _ _ I (fun c E1 wd1 S1 q1 I1 T1 => by
    cases c with
    | true => exact hx _ _ q1 _ _ _ _ I1 (R.step T1)
    | false => exact hy _ _ q1 _ _ _ _ I1 (R.step T1)) R.xok
theorem sim_it (ht : SimT t vt) (hx : SimS x vx) {kv : KV} {k : KK} : ∀ (m : Nat) (E : VEnv), vIt vt vx kv m E → ∀ (wd : Wd) (ρ : Rho) (S : Sto), Inv' wd E ρ S → RefS kv k wd E ρ S → wIt t x k m ρ S
  | 0, _, q, _, _, _, _, _ => q.elim
  | m + 1, E, q, wd, ρ, S, I, R => ht _ _ _ q wd ρ S _ _ I (fun c E1 wd1 S1 q1 I1 T1 => by
    cases c with
    | false => exact R.nx _ _ _ _ q1 I1 T1
    | true =>
      have R1 := R.step T1
      exact hx _ _ q1 _ _ _ _ I1 ⟨fun E' wd' ρ' S' q2 I2 T2 => sim_it ht hx m _ q2 _ _ _ I2 (R1.step T2), R1.rt, R1.nx, fun E' wd' ρ' S' q2 I2 T2 => sim_it ht hx m _ q2 _ _ _ I2 (R1.step T2), R1.ex⟩) R.xok
theorem sim_whl (ht : SimT t vt) (hx : SimS x vx) : SimS (wWhl t x) (vWhl vt vx) := fun kv E ⟨m, q⟩ k wd ρ S I R => ⟨m, sim_it ht hx m E q wd ρ S I R⟩
end
end WW


set_option Elab.async false
set_option linter.all false
set_option maxRecDepth 100000
set_option maxHeartbeats 4000000
set_option autoImplicit false
namespace WW
open PySem PySem.Spec PyProof.Rows L2

/-! ### loops over sequences -/
structure VSrc where
  items : List P
  slot : Option Nat
abbrev VI := XV → VEnv → (VSrc → VEnv → Prop) → Prop
/-- an owned list is lent to the loop that walks it -/
def lockE : Option Nat → VEnv → VEnv
  | none, E => E
  | some j, E => match lk E j with
    | some v => pt E j (some (.b v.val))
    | none => E
/-- and given back -/
def unE (s : Option Nat) (E0 E : VEnv) : VEnv := match s with
  | none => E
  | some j => match lk E j with
    | some (.b _) => pt E j (lk E0 j)
    | _ => E
def itemsP : P → Option (List P)
  | .tup xs => some xs
  | .fro xs => some xs
  | .lst xs => some xs
  | .str z => some (z.cps.toList.map fun c => .str ⟨#[c]⟩)
  | _ => none
def srcV (h : Hd) (E : VEnv) (Q : P → Option Nat → VEnv → Prop) : Prop := match h with
  | .slot j => gv (lk E j) fun v => match v with
    | .p x => Q x none E
    | .b x => Q x none E
    | .o x => Q x (some j) E
    | .io x => Q x (some j) E
  | .v v => gv (take1 E (.v v)) fun t => Q t.1 none t.2
def vSeqI (a : VE) : VI := fun X E Q => a X E fun h E1 => srcV h E1 fun x s E2 => gv (itemsP x) fun xs => Q ⟨xs, s⟩ E2
def enumP : Nat → List P → List P
  | _, [] => []
  | k, x :: r => .tup [.int (k : Nat), x] :: enumP (k + 1) r
def enumOk : P → Option (List P)
  | .tup xs => some (enumP 0 xs)
  | .fro xs => some (enumP 0 xs)
  | .lst xs => some (enumP 0 xs)
  | _ => none
def vEnum (r : VA) : VI := fun X E Q => r X E fun hs E1 => match hs with
  | [h] => srcV h E1 fun x s E2 => gv (enumOk x) fun xs => Q ⟨xs, s⟩ E2
  | _ => False
def rngP : List P → (List P → Prop) → Prop
  | [.int j], Q => (-(2 ^ 62) ≤ j ∧ j < 2 ^ 62) ∧ Q ((List.range j.toNat).map fun k => .int ((0 : Int) + (k : Nat)))
  | [.int i, .int j], Q => (-(2 ^ 62) ≤ i ∧ i < 2 ^ 62 ∧ -(2 ^ 62) ≤ j ∧ j < 2 ^ 62) ∧ Q ((List.range (j - i).toNat).map fun k => .int (i + (k : Nat)))
  | [.int i, .int j, .int c], Q => ∃ n, RgC i j c n ∧ Q ((List.range n).map fun k => .int (i + (k : Nat) * c))
  | _, _ => False
def vRng (r : VA) : VI := fun X E Q => r X E fun hs E1 => gv (rds E1 hs) fun xs => rngP xs fun ys => Q ⟨ys, none⟩ E1
/-- a loop's source, told: what is walked stands at every later time -/
def SrcOk (wd : Wd) (E : VEnv) (ρ : Rho) (S : Sto) (s : VSrc) (t : Src) : Prop := RepL wd S s.items t.items ∧ (∀ j, s.slot = some j → ∃ v n, lk E j = some v ∧ v.own = true ∧ look ρ j = some (.ref n)) ∧
  ∀ wd' E' ρ' S', Step wd (lockE s.slot E) ρ S wd' E' ρ' S' → t.stab S'
def SimI (w : WI) (vi : VI) : Prop := ∀ (X : XV) (E : VEnv) (Qv : VSrc → VEnv → Prop), vi X E Qv → ∀ (wd : Wd) (ρ : Rho) (S : Sto) (xq : XQ) (Qd : Src → Sto → Prop), Inv' wd E ρ S →
  (∀ s E' wd' t S', Qv s E' → Inv' wd' E' ρ S' → Step wd E ρ S wd' E' ρ S' → SrcOk wd' E' ρ S' s t → Qd t S') → XOk X wd E ρ S xq → w (xq, ρ) S Qd
section
variable {wd wd0 wd1 wd2 wd' : Wd} {E E0 E1 E2 E' : VEnv} {ρ ρ0 ρ1 ρ2 ρ' : Rho} {S S0 S1 S2 S' : Sto} {kv : KV} {k : KK}
theorem chars_rep {wd : Wd} {S : Sto} (z : Str) : RepL wd S (z.cps.toList.map fun c => P.str ⟨#[c]⟩) (z.cps.toList.map fun c => D.str ⟨#[c]⟩) := by
  generalize z.cps.toList = l
  induction l with
  | nil => rfl
  | cons x r ih => exact RepL.cons repP_str ih
def SrcRes (wd0 : Wd) (E0 : VEnv) (ρ : Rho) (S0 S : Sto) (d : D) (Qv : P → Option Nat → VEnv → Prop) : Prop := ∃ x s E' wd', Qv x s E' ∧ Inv' wd' E' ρ S ∧ Step wd0 E0 ρ S0 wd' E' ρ S ∧ RepT wd' S x d ∧ (∀ j, s = some j → ∃ v n, lk E' j = some v ∧ v.own = true ∧ look ρ j = some (.ref n)) ∧
      ∀ n o, d = .ref n → S[n]? = some o → ∀ wd2 E2 ρ2 S2, Step wd' (lockE s E') ρ S wd2 E2 ρ2 S2 → S2[n]? = some o
theorem src_ok {h : Hd} {d : D} {Qv : P → Option Nat → VEnv → Prop} (I0 : Inv' wd0 E0 ρ S0) (I : Inv' wd E ρ S) (T : Step wd0 E0 ρ S0 wd E ρ S) (r : RepH wd E ρ S S0.length h d) (q : srcV h E Qv) : SrcRes wd0 E0 ρ S0 S d Qv := by
  have pas : ∀ {wd : Wd} {E : VEnv}, Inv' wd E ρ S → ∀ {x : P} {d : D}, RepP wd S x d → ∀ n o, d = .ref n → S[n]? = some o → ∀ wd2 E2 ρ2 S2, Step wd (lockE none E) ρ S wd2 E2 ρ2 S2 → S2[n]? = some o := fun I x d r n o e h wd2 E2 ρ2 S2 T2 => by
    subst e
    exact T2.fr n o h (fun z => (I.osh n z).1 r.2) (I.shl n r.2).2
  match h, r, q with
  | .slot j, r, q =>
    obtain ⟨v, e, q⟩ := gv_iff.mp q
    obtain ⟨d', e1, r1⟩ := I.rep j v e
    have r : look ρ j = some d := r
    rw [r] at e1
    cases e1
    have own : ∀ x, v.own = true → v.val = x → Qv x (some j) E → (∃ n, d = .ref n) → SrcRes wd0 E0 ρ S0 S d Qv := fun x ho hv q hn => by
      obtain ⟨n, rfl⟩ := hn
      refine ⟨x, some j, E, wd, q, I, T, by rw [← hv]; exact r1.top, fun j' ej => ?_, fun m o em hm wd2 E2 ρ2 S2 T2 => ?_⟩
      · cases ej
        exact ⟨v, n, e, ho, r⟩
      · cases em
        refine T2.fr n o hm ?_ (I.osh n ⟨j, v, e, ho, r⟩).2
        rintro ⟨i, w, h1, h2, h3⟩
        have el : lockE (some j) E = pt E j (some (.b v.val)) := by
          unfold lockE
          simp only [e]
        rw [el] at h1
        by_cases ei : j = i
        · subst ei
          rw [lk_self (lk_lt e)] at h1
          cases h1
          cases h2
        · rw [lk_ne ei] at h1
          exact ei (I.one j i v w n e h1 ho h2 r h3)
    match v, e, r1, q, own with
    | .p x, e, r1, q, _ => exact ⟨x, none, E, wd, q, I, T, r1.1, (fun j h => nomatch h), pas I r1⟩
    | .b x, e, r1, q, _ =>
      refine ⟨x, none, E, wd, q, I, T, r1, (fun j h => nomatch h), fun n o en hn wd2 E2 ρ2 S2 T2 => ?_⟩
      subst en
      obtain ⟨h1, h2⟩ := I.bor j x n e r
      exact T2.fr n o hn h1 h2
    | .o x, e, r1, q, own => exact own x rfl rfl q r1.2
    | .io x, e, r1, q, own => exact own x rfl rfl q r1.2
  | .v v, r, q =>
    obtain ⟨⟨x, E2⟩, e, q⟩ := gv_iff.mp q
    obtain ⟨wd2, I2, T2, r2⟩ := take1_ok I T r e
    exact ⟨x, none, E2, wd2, q, I2, T2, r2.1, (fun j h => nomatch h), pas I2 r2⟩
theorem enum_rep {wd : Wd} {S : Sto} : ∀ {xs : List P} {ds : List D} (k : Nat), RepL wd S xs ds → RepL wd S (enumP k xs) (enumD k ds)
  | [], _, _, r => by cases r; rfl
  | x :: xs, _, k, r => by
    obtain ⟨d, s, rfl, r1, r2⟩ := r.uncons
    exact RepL.cons (repP_tup (RepL.cons repP_int (RepL.one r1))) (enum_rep (k + 1) r2)
end
section
variable {a b c : W} {t u : WT} {va vb vc : VE} {vt vu : VT} {wa : WA} {ra : VA} {x y : WS} {vx vy : VS} {wi : WI} {vi : VI}
theorem sim_seqI (ha : SimE a va) : SimI (wSeqI a) (vSeqI va) := fun X E Qv q wd ρ S xq Qd I k x =>
  ha X E _ q wd ρ S xq _ I (fun h1 E1 wd1 d1 S1 q1 I1 T1 r1 => by
    obtain ⟨x, s, E2, wd2, q2, I2, T2, r2, hs, st⟩ := src_ok I I1 T1 r1 q1
    obtain ⟨xs, e, q2⟩ := gv_iff.mp q2
    have fin : ∀ ds stab, RepL wd2 S1 xs ds → (∀ wd' E' ρ' S', Step wd2 (lockE s E2) ρ S1 wd' E' ρ' S' → stab S') → Qd ⟨ds, stab⟩ S1 := fun ds stab h1 h2 => k _ _ _ _ _ q2 I2 T2 ⟨h1, hs, h2⟩
    cases x <;> first | (cases e; done) | skip
    · cases e
      cases (show d1 = _ from r2)
      exact fin _ _ (chars_rep _) fun _ _ _ _ _ => trivial
    · cases e
      obtain ⟨ds, rfl, r2⟩ := r2
      exact fin _ _ r2 fun _ _ _ _ _ => trivial
    · cases e
      obtain ⟨ds, rfl, r2⟩ := r2
      exact fin _ _ r2 fun _ _ _ _ _ => trivial
    · cases e
      obtain ⟨n, ds, rfl, h, r2⟩ := r2
      exact ⟨ds, h, fin _ _ r2 fun wd' E' ρ' S' T => st n _ rfl h wd' E' ρ' S' T⟩) x
theorem sim_enum (ha : SimA wa ra) : SimI (wEnum wa) (vEnum ra) := fun X E Qv q wd ρ S xq Qd I k x =>
  ha X E _ q wd ρ S xq _ I (fun h1 E1 wd1 d1 S1 q1 I1 T1 r1 => by
    match h1, r1, q1 with
    | [h], r1, q1 =>
      obtain ⟨d, s0, ed, r1', r0⟩ := r1
      cases r0
      subst ed
      have q1 : srcV h E1 fun x s E2 => gv (enumOk x) fun xs => Qv ⟨xs, s⟩ E2 := q1
      obtain ⟨x, s, E2, wd2, q2, I2, T2, r2, hs, st⟩ := src_ok I I1 T1 r1' q1
      obtain ⟨xs, e, q2⟩ := gv_iff.mp q2
      have fin : ∀ ds stab, RepL wd2 S1 xs ds → (∀ wd' E' ρ' S', Step wd2 (lockE s E2) ρ S1 wd' E' ρ' S' → stab S') → Qd ⟨ds, stab⟩ S1 := fun ds stab h1 h2 => k _ _ _ _ _ q2 I2 T2 ⟨h1, hs, h2⟩
      cases x <;> first | (cases e; done) | skip
      · cases e
        obtain ⟨ds, rfl, r2⟩ := r2
        exact fin _ _ (enum_rep 0 r2) fun _ _ _ _ _ => trivial
      · cases e
        obtain ⟨ds, rfl, r2⟩ := r2
        exact fin _ _ (enum_rep 0 r2) fun _ _ _ _ _ => trivial
      · cases e
        obtain ⟨n, ds, rfl, h, r2⟩ := r2
        exact ⟨ds, h, fin _ _ (enum_rep 0 r2) fun wd' E' ρ' S' T => st n _ rfl h wd' E' ρ' S' T⟩
    | [], r1, q1 => exact q1.elim
    | _ :: _ :: _, r1, q1 => exact q1.elim) x
theorem ints_map {wd : Wd} {S : Sto} {f : Nat → Int} : ∀ l : List Nat, RepL wd S (l.map fun k => P.int (f k)) (l.map fun k => D.int (f k))
  | [] => rfl
  | x :: r => RepL.cons repP_int (ints_map r)
theorem sim_rng (ha : SimA wa ra) : SimI (wRng wa) (vRng ra) := fun X E Qv q wd ρ S xq Qd I k x =>
  ha X E _ q wd ρ S xq _ I (fun h1 E1 wd1 d1 S1 q1 I1 T1 r1 => by
    obtain ⟨xs, e, q1⟩ := gv_iff.mp q1
    obtain ⟨l, rfl, rfl, hr⟩ := rds_rep I1 r1 e
    have fin : ∀ {ys : List P} {ds : List D}, Qv ⟨ys, none⟩ E1 → RepL wd1 S1 ys ds → Qd ⟨ds, fun _ => True⟩ S1 := fun q r => k _ _ _ _ _ q I1 T1 ⟨r, (fun j h => nomatch h), fun _ _ _ _ _ => trivial⟩
    match l, hr, q1 with
    | [(a, d)], hr, q1 =>
      have r : RepT wd1 S1 a d := hr (a, d) (by simp)
      cases a <;> try exact q1.elim
      cases (show d = _ from r)
      exact ⟨q1.1, fin q1.2 (ints_map _)⟩
    | [(a, d), (b, e)], hr, q1 =>
      have r : RepT wd1 S1 a d := hr (a, d) (by simp)
      have r2 : RepT wd1 S1 b e := hr (b, e) (by simp)
      cases a <;> try exact q1.elim
      cases b <;> try exact q1.elim
      cases (show d = _ from r)
      cases (show e = _ from r2)
      exact ⟨q1.1, fin q1.2 (ints_map _)⟩
    | [(a, d), (b, e), (c, f)], hr, q1 =>
      have r : RepT wd1 S1 a d := hr (a, d) (by simp)
      have r2 : RepT wd1 S1 b e := hr (b, e) (by simp)
      have r3 : RepT wd1 S1 c f := hr (c, f) (by simp)
      cases a <;> try exact q1.elim
      cases b <;> try exact q1.elim
      cases c <;> try exact q1.elim
      cases (show d = _ from r)
      cases (show e = _ from r2)
      cases (show f = _ from r3)
      obtain ⟨n, h, q1⟩ := q1
      exact ⟨n, h, fin q1 (ints_map _)⟩
    | [], hr, q1 => exact q1.elim
    | (a, _) :: (b, _) :: (c, _) :: _ :: _, hr, q1 => exact absurd q1 (by cases a <;> cases b <;> cases c <;> exact id)) x
end
def vForGo (p : Pat) (b : VS) (kv : KV) : List P → VEnv → Prop
  | [], E => kv.nx E
  | x :: r, E => gv (bindVP p x E) fun E' => b { kv with nx := vForGo p b kv r, ct := vForGo p b kv r, bk := kv.nx } E'
def unK (s : Option Nat) (E0 : VEnv) (kv : KV) : KV := match s with
  | none => kv
  | some j => ⟨fun E => kv.nx (unE (some j) E0 E), fun v E => kv.rt v (unE (some j) E0 E), fun E => kv.bk (unE (some j) E0 E), fun E => kv.ct (unE (some j) E0 E), fun c fs E => kv.ex c fs (unE (some j) E0 E)⟩
def vFor (vi : VI) (p : Pat) (b : VS) : VS := fun kv E => vi kv.ex E fun s E1 => vForGo p b (unK s.slot E1 kv) s.items (lockE s.slot E1)
def vForN (i : Nat) (p : Pat) (b : VS) : VS := vFor (vSeqI (vVar i)) p b
section
variable {wd wd0 wd1 wd2 wd' : Wd} {E E0 E1 E2 E' : VEnv} {ρ ρ0 ρ1 ρ2 ρ' : Rho} {S S0 S1 S2 S' : Sto} {kv : KV} {k : KK} {j n : Nat} {v : V'}
theorem lk_lock (e : lk E j = some v) : lockE (some j) E = pt E j (some (.b v.val)) := by
  unfold lockE
  simp only [e]
theorem own_lock (I : Inv' wd E ρ S) (e : lk E j = some v) (ho : v.own = true) (hl : look ρ j = some (.ref n)) : (∀ m, OwnAt (pt E j (some (.b v.val))) ρ m → OwnAt E ρ m) ∧ ¬ OwnAt (pt E j (some (.b v.val))) ρ n := by
  refine ⟨fun m ⟨i, w, h1, h2, h3⟩ => ?_, fun ⟨i, w, h1, h2, h3⟩ => ?_⟩
  · by_cases ei : j = i
    · subst ei
      rw [lk_self (lk_lt e)] at h1
      cases h1
      cases h2
    · rw [lk_ne ei] at h1
      exact ⟨i, w, h1, h2, h3⟩
  · by_cases ei : j = i
    · subst ei
      rw [lk_self (lk_lt e)] at h1
      cases h1
      cases h2
    · rw [lk_ne ei] at h1
      exact ei (I.one j i v w n e h1 ho h2 hl h3)
theorem inv_lock (I : Inv' wd E ρ S) (e : lk E j = some v) (ho : v.own = true) (hl : look ρ j = some (.ref n)) : Inv' wd (pt E j (some (.b v.val))) ρ S := by
  obtain ⟨h1, h2⟩ := own_lock I e ho hl
  have cs : ∀ i w, lk (pt E j (some (.b v.val))) i = some w → (j = i ∧ w = .b v.val) ∨ (j ≠ i ∧ lk E i = some w) := fun i w h => by
    by_cases ei : j = i
    · subst ei
      rw [lk_self (lk_lt e)] at h
      cases h
      exact .inl ⟨rfl, rfl⟩
    · rw [lk_ne ei] at h
      exact .inr ⟨ei, h⟩
  refine ⟨by rw [pt_len]; exact I.len, fun i w h => ?_, fun i i' w w' m a b c d => ?_, fun i x m a b => ?_, fun m h => I.osh m (h1 m h), I.shl, I.gok⟩
  · rcases cs i w h with ⟨rfl, rfl⟩ | ⟨_, h⟩
    · obtain ⟨d, e1, r⟩ := I.rep j v e
      exact ⟨d, e1, r.top⟩
    · exact I.rep i w h
  · rcases cs i w a with ⟨_, rfl⟩ | ⟨_, a⟩
    · cases c
    · rcases cs i' w' b with ⟨_, rfl⟩ | ⟨_, b⟩
      · cases d
      · exact I.one i i' w w' m a b c d
  · rcases cs i _ a with ⟨rfl, _⟩ | ⟨_, a⟩
    · rw [hl] at b
      cases b
      exact ⟨h2, (I.osh n ⟨j, v, e, ho, hl⟩).2⟩
    · obtain ⟨p, q⟩ := I.bor i x m a b
      exact ⟨fun z => p (h1 m z), q⟩
/-- the loop is over: the list is owned again -/
theorem unlock (I : Inv' wd E ρ S) (e : lk E j = some v) (ho : v.own = true) (hl : look ρ j = some (.ref n)) (I' : Inv' wd' E' ρ' S') (T : Step wd (pt E j (some (.b v.val))) ρ S wd' E' ρ' S') :
    Inv' wd' (unE (some j) E E') ρ' S' ∧ Step wd E ρ S wd' (unE (some j) E E') ρ' S' := by
  obtain ⟨o1, o2⟩ := own_lock I e ho hl
  have hO : OwnAt E ρ n := ⟨j, v, e, ho, hl⟩
  have hsh : ∀ m, wd'.sh m → wd.sh m ∨ S.length ≤ m ∨ OwnAt E ρ m := fun m h => by
    rcases T.shn m h with q | q | q
    · exact .inl q
    · exact .inr (.inl q)
    · exact .inr (.inr (o1 m q))
  have lkE : ∀ i, j ≠ i → lk (pt E j (some (.b v.val))) i = lk E i := fun i h => lk_ne h
  by_cases hb : ∃ y, lk E' j = some (.b y)
  · obtain ⟨y, hb⟩ := hb
    have hu : unE (some j) E E' = pt E' j (some v) := by
      unfold unE
      simp only [hb, e]
    rw [hu]
    obtain ⟨b1, b2⟩ := T.bor j y hb
    rw [lk_self (lk_lt e)] at b1
    have hl' : look ρ' j = some (.ref n) := b2.trans hl
    obtain ⟨o0, e0⟩ := own_at I hO
    have hnS := at_lt e0
    have r0 := I.rep j v e
    obtain ⟨d0, ed, r0⟩ := r0
    rw [hl] at ed
    cases ed
    have keep := T.keep (inv_lock I e ho hl)
    have at' : S'[n]? = some o0 := T.fr n o0 e0 o2 (I.osh n hO).2
    have nG : wd'.G n = none := by
      cases g : wd'.G n with
      | none => rfl
      | some φ =>
        rcases T.Gn n φ g with z | z
        · rw [(I.osh n hO).2] at z; cases z
        · omega
    have nsh : ¬ wd'.sh n := fun z => by
      rcases T.shn n z with q | q | q
      · exact (I.osh n hO).1 q
      · omega
      · exact o2 q
    have nown : ¬ OwnAt E' ρ' n := fun z => by
      rcases T.own n z with q | q
      · exact o2 q
      · omega
    have cs : ∀ i w, lk (pt E' j (some v)) i = some w → (j = i ∧ w = v) ∨ (j ≠ i ∧ lk E' i = some w) := fun i w h => by
      by_cases ei : j = i
      · subst ei
        rw [lk_self (lk_lt hb)] at h
        cases h
        exact .inl ⟨rfl, rfl⟩
      · rw [lk_ne ei] at h
        exact .inr ⟨ei, h⟩
    have own : ∀ m, OwnAt (pt E' j (some v)) ρ' m → m = n ∨ OwnAt E' ρ' m := fun m ⟨i, w, h1, h2, h3⟩ => by
      rcases cs i w h1 with ⟨rfl, rfl⟩ | ⟨_, h1⟩
      · rw [hl'] at h3; cases h3; exact .inl rfl
      · exact .inr ⟨i, w, h1, h2, h3⟩
    refine ⟨⟨by rw [pt_len]; exact I'.len, fun i w h => ?_, fun i i' w w' m a b c d p q => ?_, fun i x m a b => ?_, fun m h => ?_, I'.shl, I'.gok⟩, ⟨T.len, T.shm, hsh, T.Gm, T.Gn, fun m h => ?_, fun m o h h1 h2 => T.fr m o h (fun z => h1 (o1 m z)) h2, fun i x h => ?_, fun i x h => ?_, fun i x m h ex => ?_⟩⟩
    · rcases cs i w h with ⟨rfl, rfl⟩ | ⟨_, h⟩
      · refine ⟨_, hl', r0.keep keep ?_⟩
        intro o hm
        rw [e0] at hm
        cases hm
        exact at'
      · exact I'.rep i w h
    · rcases cs i w a with ⟨rfl, rfl⟩ | ⟨_, a⟩
      · rw [hl'] at p
        cases p
        rcases cs i' w' b with ⟨rfl, rfl⟩ | ⟨_, b⟩
        · rfl
        · exact absurd ⟨i', w', b, d, q⟩ nown
      · rcases cs i' w' b with ⟨rfl, e2⟩ | ⟨_, b⟩
        · rw [hl'] at q
          cases q
          exact absurd ⟨i, w, a, c, p⟩ nown
        · exact I'.one i i' w w' m a b c d p q
    · rcases cs i _ a with ⟨_, z⟩ | ⟨ni, a⟩
      · subst z; cases ho
      · obtain ⟨p, q⟩ := I'.bor i x m a b
        refine ⟨fun z => ?_, q⟩
        rcases own m z with rfl | z
        · obtain ⟨g1, g2⟩ := T.bor i x a
          rw [lkE i ni] at g1
          exact (I.bor i x m g1 (by rw [← g2]; exact b)).1 hO
        · exact p z
    · rcases own m h with rfl | z
      · exact ⟨nsh, nG⟩
      · exact I'.osh m z
    · rcases own m h with rfl | z
      · exact .inl hO
      · rcases T.own m z with q | q
        · exact .inl (o1 m q)
        · exact .inr q
    · rcases cs i _ h with ⟨_, z⟩ | ⟨ni, h⟩
      · subst z; cases ho
      · obtain ⟨g1, g2⟩ := T.bor i x h
        rw [lkE i ni] at g1
        exact ⟨g1, g2⟩
    · rcases cs i _ h with ⟨rfl, z⟩ | ⟨ni, h⟩
      · exact ⟨⟨x, by rw [z]; exact e⟩, b2⟩
      · obtain ⟨⟨y, g1⟩, g2⟩ := T.io i x h
        rw [lkE i ni] at g1
        exact ⟨⟨y, g1⟩, g2⟩
    · rcases cs i _ h with ⟨rfl, z⟩ | ⟨ni, h⟩
      · rw [hl'] at ex
        cases ex
        exact .inl ⟨j, x, by rw [z]; exact e, hl⟩
      · rcases T.oo i x m h ex with ⟨i2, y, g1, g2⟩ | q
        · have : j ≠ i2 := fun z => by
            subst z
            rw [lk_self (lk_lt e)] at g1
            cases g1
          rw [lkE i2 this] at g1
          exact .inl ⟨i2, y, g1, g2⟩
        · exact .inr q
  · have hu : unE (some j) E E' = E' := by
      unfold unE
      cases q : lk E' j with
      | none => simp only [q]
      | some w =>
        cases w with
        | b y => exact absurd ⟨y, q⟩ hb
        | _ => simp only [q]
    rw [hu]
    refine ⟨I', ⟨T.len, T.shm, hsh, T.Gm, T.Gn, fun m h => ?_, fun m o h h1 h2 => T.fr m o h (fun z => h1 (o1 m z)) h2, fun i x h => ?_, fun i x h => ?_, fun i x m h ex => ?_⟩⟩
    · rcases T.own m h with q | q
      · exact .inl (o1 m q)
      · exact .inr q
    · obtain ⟨g1, g2⟩ := T.bor i x h
      have : j ≠ i := fun z => by
        subst z
        exact hb ⟨x, h⟩
      rw [lkE i this] at g1
      exact ⟨g1, g2⟩
    · obtain ⟨⟨y, g1⟩, g2⟩ := T.io i x h
      have : j ≠ i := fun z => by
        subst z
        rw [lk_self (lk_lt e)] at g1
        cases g1
      rw [lkE i this] at g1
      exact ⟨⟨y, g1⟩, g2⟩
    · rcases T.oo i x m h ex with ⟨i2, y, g1, g2⟩ | q
      · have : j ≠ i2 := fun z => by
          subst z
          rw [lk_self (lk_lt e)] at g1
          cases g1
        rw [lkE i2 this] at g1
        exact .inl ⟨i2, y, g1, g2⟩
      · exact .inr q
/-- a loop's body and ends, seen from inside the loop -/
theorem ref_lock {s : VSrc} {t : Src} (I : Inv' wd E ρ S) (R : RefS kv k wd E ρ S) (ok : SrcOk wd E ρ S s t) : Inv' wd (lockE s.slot E) ρ S ∧ RefS (unK s.slot E kv) k wd (lockE s.slot E) ρ S := by
  cases q : s.slot with
  | none => exact ⟨I, R⟩
  | some j =>
    obtain ⟨v, n, e, ho, hl⟩ := ok.2.1 j q
    rw [lk_lock e]
    refine ⟨inv_lock I e ho hl, ⟨fun E' wd' ρ' S' q I' T => ?_, fun v E' wd' ρ' S' d q I' T r => ?_, fun E' wd' ρ' S' q I' T => ?_, fun E' wd' ρ' S' q I' T => ?_, fun c fs E' wd' ρ' dfs S' q I' T r => ?_⟩⟩
    · obtain ⟨I2, T2⟩ := unlock I e ho hl I' T
      exact R.nx _ _ _ _ q I2 T2
    · obtain ⟨I2, T2⟩ := unlock I e ho hl I' T
      refine R.rt _ _ _ _ _ _ q I2 T2 ?_
      match v, r with
      | .p x, r => exact r
      | .o x, ⟨r, m, em, h1, h2, h3, h4⟩ =>
        have hO : OwnAt E ρ n := ⟨j, _, e, ho, hl⟩
        have hm : m ≠ n := by
          rintro rfl
          rcases h4 with h4 | ⟨i, y, g1, g2⟩
          · obtain ⟨o0, e0⟩ := own_at I hO
            have := at_lt e0
            omega
          · exact (own_lock I e ho hl).2 ⟨i, _, g1, rfl, g2⟩
        refine ⟨r, m, em, h1, h2, fun z => ?_, ?_⟩
        · rcases T2.own m z with q | q
          · -- owned before: it was owned inside, too, or it is n
            obtain ⟨i, w, a1, a2, a3⟩ := z
            unfold unE at a1
            dsimp only at a1
            split at a1
            · rename_i y hb
              by_cases ei : j = i
              · subst ei
                obtain ⟨b1, b2⟩ := T.bor j y hb
                rw [b2, hl] at a3
                cases a3
                exact hm rfl
              · rw [lk_ne ei] at a1
                exact h3 ⟨i, w, a1, a2, a3⟩
            · exact h3 ⟨i, w, a1, a2, a3⟩
          · obtain ⟨i, w, a1, a2, a3⟩ := z
            unfold unE at a1
            dsimp only at a1
            split at a1
            · rename_i y hb
              by_cases ei : j = i
              · subst ei
                obtain ⟨b1, b2⟩ := T.bor j y hb
                rw [b2, hl] at a3
                cases a3
                exact hm rfl
              · rw [lk_ne ei] at a1
                exact h3 ⟨i, w, a1, a2, a3⟩
            · exact h3 ⟨i, w, a1, a2, a3⟩
        · rcases h4 with h4 | ⟨i, y, g1, g2⟩
          · exact .inl h4
          · have : j ≠ i := fun z => by
              subst z
              rw [lk_self (lk_lt e)] at g1
              cases g1
            rw [lk_ne this] at g1
            exact .inr ⟨i, y, g1, g2⟩
    · obtain ⟨I2, T2⟩ := unlock I e ho hl I' T
      exact R.bk _ _ _ _ q I2 T2
    · obtain ⟨I2, T2⟩ := unlock I e ho hl I' T
      exact R.ct _ _ _ _ q I2 T2
    · obtain ⟨I2, T2⟩ := unlock I e ho hl I' T
      exact R.ex _ _ _ _ _ _ _ q I2 T2 r
end
section
variable {a b c : W} {t u : WT} {va vb vc : VE} {vt vu : VT} {wa : WA} {ra : VA} {x y : WS} {vx vy : VS} {wi : WI} {vi : VI}
theorem sim_forGo (hx : SimS x vx) {p : Pat} {st : Sto → Prop} {kv : KV} {k : KK} {wd0 : Wd} {E0 : VEnv} {ρ0 : Rho} {S0 : Sto} (I0 : Inv' wd0 E0 ρ0 S0) (hst : ∀ wd' E' ρ' S', Step wd0 E0 ρ0 S0 wd' E' ρ' S' → st S') :
    ∀ (xs : List P) (ds : List D), RepL wd0 S0 xs ds → ∀ (E : VEnv), vForGo p vx kv xs E → ∀ (wd : Wd) (ρ : Rho) (S : Sto), Inv' wd E ρ S → Step wd0 E0 ρ0 S0 wd E ρ S → RefS kv k wd E ρ S → forGo st p x k ds ρ S
  | [], _, r, E, q, wd, ρ, S, I, T, R => by
    cases r
    exact ⟨hst _ _ _ _ T, R.nx _ _ _ _ q I (Step.refl _ _ _ _)⟩
  | y :: xs, _, r, E, q, wd, ρ, S, I, T, R => by
    obtain ⟨d, s, rfl, r1, r2⟩ := r.uncons
    obtain ⟨E1, e, q⟩ := gv_iff.mp q
    obtain ⟨ρ1, e1, I1, T1⟩ := bindVP_ok I (r1.keep (T.keep I0)) e
    have R1 := R.step T1
    refine ⟨hst _ _ _ _ T, gv_iff.mpr ⟨ρ1, e1, ?_⟩⟩
    exact hx _ _ q _ _ _ _ I1 ⟨fun E' wd' ρ' S' q2 I2 T2 => sim_forGo hx I0 hst xs s r2 E' q2 _ _ _ I2 ((T.trans T1).trans T2) (R1.step T2), R1.rt, R1.nx, fun E' wd' ρ' S' q2 I2 T2 => sim_forGo hx I0 hst xs s r2 E' q2 _ _ _ I2 ((T.trans T1).trans T2) (R1.step T2), R1.ex⟩
theorem sim_for {p : Pat} (hi : SimI wi vi) (hx : SimS x vx) : SimS (wFor wi p x) (vFor vi p vx) := fun kv E q k wd ρ S I R =>
  hi _ _ _ q wd ρ S _ _ I (fun s E1 wd1 t S1 q1 I1 T1 ok => by
    obtain ⟨I2, R2⟩ := ref_lock I1 (R.step T1) ok
    exact sim_forGo hx I2 ok.2.2 s.items t.items ok.1 _ q1 _ _ _ I2 (Step.refl _ _ _ _) R2) R.xok
theorem sim_forN {i : Nat} {p : Pat} (hx : SimS x vx) : SimS (wForN i p x) (vForN i p vx) := fun kv E q k wd ρ S I R => by
  have h := sim_for (p := p) (sim_seqI (sim_var i)) hx kv E q k wd ρ S I R
  exact forN_iff.mpr (.inl h)
end
end WW


set_option Elab.async false
set_option linter.all false
set_option maxRecDepth 100000
set_option maxHeartbeats 4000000
set_option autoImplicit false
namespace WW
open PySem PySem.Spec PyProof.Rows L2

/-! ### list comprehensions -/
def noXV : XV := fun _ _ _ => False
def wipeV (E : VEnv) : List Nat → VEnv
  | [] => E
  | v :: vs => pt (wipeV E vs) v none
def restV (E0 E : VEnv) : List Nat → VEnv
  | [] => E
  | v :: vs => pt (restV E0 E vs) v (lk E0 v)
def pasB : Option V' → Bool
  | none => true
  | some (.p _) => true
  | _ => false
def pasAll (E : VEnv) (vs : List Nat) : Bool := vs.all fun i => pasB (lk E i)
def vlcGo (p : Pat) (t : VT) (e : VE) (vs : List Nat) (Q : List P → VEnv → Prop) : List P → List P → VEnv → Prop
  | [], acc, E => Q acc E
  | x :: r, acc, E => gv (bindVP p x E) fun E1 => t noXV E1 fun b E2 => if b = true then e noXV E2 fun h E3 => gv (take1 E3 h) fun tk => acc.length < sizeLine ∧ vlcGo p t e vs Q r (acc ++ [tk.1]) (wipeV tk.2 vs) else vlcGo p t e vs Q r acc (wipeV E2 vs)
def vLc (vi : VI) (p : Pat) (t : VT) (e : VE) (vs : List Nat) : VE := fun X E Q => vi X E fun s E1 => pasAll E1 vs = true ∧ vlcGo p t e vs (fun acc E2 => Q (.v (.o (.lst acc))) (unE s.slot E1 (restV E1 E2 vs))) s.items [] (wipeV (lockE s.slot E1) vs)
section
variable {wd wd0 wd1 wd2 wd' : Wd} {E E0 E1 E2 E' : VEnv} {ρ ρ0 ρ1 ρ2 ρ' : Rho} {S S0 S1 S2 S' : Sto}
theorem bindL_look : ∀ {is : List Nat} {ds : List D} {ρ ρ' : Rho}, bindL is ds ρ = some ρ' → ρ'.length = ρ.length ∧ ∀ i, i ∉ is → look ρ' i = look ρ i
  | [], [], _, _, e => by cases e; exact ⟨rfl, fun _ _ => rfl⟩
  | j :: is, d :: ds, ρ, ρ', e => by
    obtain ⟨h1, h2⟩ := bindL_look (is := is) (ds := ds) (ρ := putR ρ j (some d)) e
    refine ⟨h1.trans (putR_len _ _ _), fun i hi => ?_⟩
    rw [h2 i (fun z => hi (List.mem_cons_of_mem _ z)), look_putR, if_neg]
    rintro ⟨rfl, _⟩
    exact hi (List.mem_cons_self ..)
  | [], _ :: _, _, _, e => by cases e
  | _ :: _, [], _, _, e => by cases e
theorem bindP_look {p : Pat} {d : D} {ρ ρ' : Rho} (e : bindP p d ρ = some ρ') : ρ'.length = ρ.length ∧ ∀ i, i ∉ p.vs → look ρ' i = look ρ i := by
  cases p with
  | nm n =>
    cases e
    refine ⟨putR_len _ _ _, fun i hi => ?_⟩
    rw [look_putR, if_neg]
    rintro ⟨rfl, _⟩
    exact hi (List.mem_cons_self ..)
  | tp is =>
    cases d <;> first | (cases e; done) | exact bindL_look e
theorem lk_wipe : ∀ (vs : List Nat) (E : VEnv) (i : Nat), lk (wipeV E vs) i = if i ∈ vs then none else lk E i
  | [], E, i => by simp [wipeV]
  | v :: vs, E, i => by
    unfold wipeV
    rw [lk_pt]
    by_cases e : v = i
    · subst e
      rw [if_pos (List.mem_cons_self ..)]
      split
      · rfl
      · rename_i z
        cases q : lk (wipeV E vs) v with
        | none => rfl
        | some w => exact absurd ⟨rfl, lk_lt q⟩ z
    · rw [if_neg (fun z => e z.1), lk_wipe vs E i]
      by_cases h : i ∈ vs
      · rw [if_pos h, if_pos (List.mem_cons_of_mem _ h)]
      · rw [if_neg h, if_neg]
        rintro z
        rcases List.mem_cons.mp z with z | z
        · exact e z.symm
        · exact h z
theorem look_wipe : ∀ (vs : List Nat) (ρ : Rho) (i : Nat), i ∉ vs → look (wipeR ρ vs) i = look ρ i
  | [], ρ, i, _ => rfl
  | v :: vs, ρ, i, h => by
    unfold wipeR
    rw [look_putR, if_neg, look_wipe vs ρ i (fun z => h (List.mem_cons_of_mem _ z))]
    rintro ⟨rfl, _⟩
    exact h (List.mem_cons_self ..)
theorem wipeR_len : ∀ (vs : List Nat) (ρ : Rho), (wipeR ρ vs).length = ρ.length
  | [], _ => rfl
  | v :: vs, ρ => by
    unfold wipeR
    rw [putR_len, wipeR_len]
theorem wipe_ok (I : Inv' wd E ρ S) (T : Step wd0 E0 ρ0 S0 wd E ρ S) : ∀ vs : List Nat, Inv' wd (wipeV E vs) ρ S ∧ Step wd0 E0 ρ0 S0 wd (wipeV E vs) ρ S
  | [] => ⟨I, T⟩
  | v :: vs => by
    obtain ⟨I1, T1⟩ := wipe_ok I T vs
    exact give (j := v) I1 T1
/-- the slots that count are the same -/
def Agree (E : VEnv) (ρ ρ' : Rho) : Prop := ρ'.length = ρ.length ∧ ∀ i v, lk E i = some v → look ρ' i = look ρ i
theorem own_swap (A : Agree E ρ ρ') (n : Nat) : OwnAt E ρ' n ↔ OwnAt E ρ n := by
  constructor
  · rintro ⟨i, v, h1, h2, h3⟩
    exact ⟨i, v, h1, h2, by rw [← A.2 i v h1]; exact h3⟩
  · rintro ⟨i, v, h1, h2, h3⟩
    exact ⟨i, v, h1, h2, by rw [A.2 i v h1]; exact h3⟩
theorem inv_swap (I : Inv' wd E ρ S) (A : Agree E ρ ρ') : Inv' wd E ρ' S :=
  ⟨by rw [A.1]; exact I.len, fun i v h => by rw [A.2 i v h]; exact I.rep i v h, fun i j v w n a b c d e f => I.one i j v w n a b c d (by rw [← A.2 i v a]; exact e) (by rw [← A.2 j w b]; exact f), fun i x n a b => by
    obtain ⟨p, q⟩ := I.bor i x n a (by rw [← A.2 i _ a]; exact b)
    exact ⟨fun z => p ((own_swap A n).mp z), q⟩, fun n h => I.osh n ((own_swap A n).mp h), I.shl, I.gok⟩
theorem step_swapR (T : Step wd0 E0 ρ0 S0 wd E ρ S) (A : Agree E ρ ρ') (B : ∀ i, lk E i ≠ none → look ρ' i = look ρ i) : Step wd0 E0 ρ0 S0 wd E ρ' S :=
  ⟨T.len, T.shm, T.shn, T.Gm, T.Gn, fun n h => T.own n ((own_swap A n).mp h), T.fr, fun i x h => by rw [A.2 i _ h]; exact T.bor i x h, fun i x h => by rw [A.2 i _ h]; exact T.io i x h, fun i x n h e => T.oo i x n h (by rw [← A.2 i _ h]; exact e)⟩
theorem step_swap (T : Step wd0 E0 ρ0 S0 wd E ρ S) (A : Agree E ρ ρ') : Step wd0 E0 ρ0 S0 wd E ρ' S := step_swapR T A fun i h => by
  cases e : lk E i with
  | none => exact absurd e h
  | some v => exact A.2 i v e
theorem step_swap0 (T : Step wd0 E0 ρ0 S0 wd E ρ S) (A : Agree E0 ρ0 ρ') : Step wd0 E0 ρ' S0 wd E ρ S :=
  ⟨T.len, T.shm, fun n h => by
    rcases T.shn n h with q | q | q
    · exact .inl q
    · exact .inr (.inl q)
    · exact .inr (.inr ((own_swap A n).mpr q)), T.Gm, T.Gn, fun n h => (T.own n h).imp (own_swap A n).mpr id, fun n o h h1 h2 => T.fr n o h (fun z => h1 ((own_swap A n).mpr z)) h2, fun i x h => by
    obtain ⟨a, b⟩ := T.bor i x h
    exact ⟨a, by rw [A.2 i _ a]; exact b⟩, fun i x h => by
    obtain ⟨⟨y, a⟩, b⟩ := T.io i x h
    exact ⟨⟨y, a⟩, by rw [A.2 i _ a]; exact b⟩, fun i x n h e => by
    rcases T.oo i x n h e with ⟨j, y, a, b⟩ | q
    · exact .inl ⟨j, y, a, by rw [A.2 j _ a]; exact b⟩
    · exact .inr q⟩
theorem putR_same {d : D} : ∀ {ρ : Rho} {i : Nat}, look ρ i = some d → putR ρ i (some d) = ρ
  | [], _, h => by cases h
  | x :: r, 0, h => by
    have h : x = some d := h
    rw [h]
    rfl
  | x :: r, i + 1, h => by
    show x :: putR r i (some d) = x :: r
    rw [putR_same (i := i) (ρ := r) h]
/-- passive slots are as before -/
theorem rest_ok (I1 : Inv' wd1 E1 ρ S1) (K : Keep wd1 S1 wd S) (I : Inv' wd E ρ S) (T : Step wd0 E0 ρ0 S0 wd E ρ S) : ∀ vs : List Nat, pasAll E1 vs = true → Inv' wd (restV E1 E vs) ρ S ∧ Step wd0 E0 ρ0 S0 wd (restV E1 E vs) ρ S
  | [], _ => ⟨I, T⟩
  | v :: vs, h => by
    unfold pasAll at h
    rw [List.all_cons, Bool.and_eq_true_iff] at h
    obtain ⟨I2, T2⟩ := rest_ok I1 K I T vs h.2
    have h1 := h.1
    unfold restV
    cases e : lk E1 v with
    | none => exact give (j := v) I2 T2
    | some w =>
      rw [e] at h1
      cases w with
      | p x =>
        obtain ⟨d, e1, r⟩ := I1.rep v _ e
        obtain ⟨I3, T3⟩ := put_pas (i := v) I2 (RepP.keep K r)
        rw [putR_same e1] at I3 T3
        exact ⟨I3, T2.trans T3⟩
      | _ => cases h1
end
section
variable {a b c : W} {t u : WT} {va vb vc : VE} {vt vu : VT} {wa : WA} {ra : VA} {x y : WS} {vx vy : VS} {wi : WI} {vi : VI}
theorem xok_no {wd : Wd} {E : VEnv} {ρ : Rho} {S : Sto} {xq : XQ} : XOk noXV wd E ρ S xq := fun _ _ _ _ _ _ h => h.elim
theorem sim_lcGo (ht : SimT t vt) (he : SimE a va) {p : Pat} {vs : List Nat} {st : Sto → Prop} (hp : ∀ i ∈ p.vs, i ∈ vs) {Qv : List P → VEnv → Prop} {Qd : Q1} {wd0 : Wd} {E0 : VEnv} {ρ0 : Rho} {S0 : Sto} (I0 : Inv' wd0 E0 ρ0 S0) (hst : ∀ wd' E' ρ' S', Step wd0 E0 ρ0 S0 wd' E' ρ' S' → st S')
    (hK : ∀ acc dacc E' wd' S', Qv acc E' → (∀ i ∈ vs, lk E' i = none) → Inv' wd' E' ρ0 S' → Step wd0 E0 ρ0 S0 wd' E' ρ0 S' → RepL wd' S' acc dacc → Qd (.ref S'.length) (S' ++ [.lst dacc])) :
    ∀ (xs : List P) (ds : List D), RepL wd0 S0 xs ds → ∀ (acc : List P) (dacc : List D) (E : VEnv), vlcGo p vt va vs Qv xs acc E → (∀ i ∈ vs, lk E i = none) → ∀ (wd : Wd) (S : Sto), Inv' wd E ρ0 S → Step wd0 E0 ρ0 S0 wd E ρ0 S → RepL wd S acc dacc → lcGo st p t a ρ0 Qd ds dacc S
  | [], _, r, acc, dacc, E, q, hn, wd, S, I, T, ra => by
    cases r
    exact ⟨hst _ _ _ _ T, hK _ _ _ _ _ q hn I T ra⟩
  | y :: xs, _, r, acc, dacc, E, q, hn, wd, S, I, T, ra => by
    obtain ⟨d, s, rfl, r1, r2⟩ := r.uncons
    obtain ⟨E1, e, q⟩ := gv_iff.mp q
    obtain ⟨ρ1, e1, I1, T1⟩ := bindVP_ok I (r1.keep (T.keep I0)) e
    obtain ⟨l1, l2⟩ := bindP_look e1
    have back : ∀ {wd2 : Wd} {E2 : VEnv} {S2 : Sto}, Inv' wd2 E2 ρ1 S2 → Step wd0 E0 ρ0 S0 wd2 E2 ρ1 S2 → Inv' wd2 (wipeV E2 vs) ρ0 S2 ∧ Step wd0 E0 ρ0 S0 wd2 (wipeV E2 vs) ρ0 S2 := fun {wd2 E2 S2} I2 T2 => by
      obtain ⟨I3, T3⟩ := wipe_ok I2 T2 vs
      have A : Agree (wipeV E2 vs) ρ1 ρ0 := ⟨l1.symm, fun i v h => by
        rw [lk_wipe] at h
        by_cases z : i ∈ vs
        · rw [if_pos z] at h; cases h
        · exact (l2 i (fun w => z (hp i w))).symm⟩
      exact ⟨inv_swap I3 A, step_swap T3 A⟩
    have none' : ∀ E2, ∀ i ∈ vs, lk (wipeV E2 vs) i = none := fun E2 i hi => by rw [lk_wipe, if_pos hi]
    refine ⟨hst _ _ _ _ T, gv_iff.mpr ⟨ρ1, e1, ht _ _ _ q wd ρ1 S noX _ I1 (fun b E2 wd2 S2 q2 I2 T2 => ?_) xok_no⟩⟩
    have T12 := (T.trans T1).trans T2
    have ra2 := RepL.keep ((T1.trans T2).keep I) _ _ ra
    cases b with
    | false =>
      obtain ⟨I3, T3⟩ := back I2 T12
      exact sim_lcGo ht he hp I0 hst hK xs s r2 acc dacc _ q2 (none' _) _ _ I3 T3 ra2
    | true =>
      refine he _ _ _ q2 wd2 ρ1 S2 noX _ I2 (fun h E3 wd3 d3 S3 q3 I3 T3 r3 => ?_) xok_no
      obtain ⟨⟨z, E4⟩, e4, hl, q3⟩ := gv_iff.mp q3
      obtain ⟨wd4, I4, T4, r4⟩ := take1_ok I3 T3 r3 e4
      obtain ⟨I5, T5⟩ := back I4 (T12.trans T4)
      exact ⟨by rw [← ra.length]; exact hl, sim_lcGo ht he hp I0 hst hK xs s r2 _ _ _ q3 (none' _) _ _ I5 T5 ((RepL.keep (T4.keep I2) _ _ ra2).app (RepL.one r4))⟩
theorem sim_lc {p : Pat} {vs : List Nat} (hi : SimI wi vi) (ht : SimT t vt) (he : SimE a va) (hp : ∀ i ∈ p.vs, i ∈ vs) : SimE (wLc wi p t a vs) (vLc vi p vt va vs) := fun X E Qv q wd ρ S xq Qd I k x =>
  hi X E _ q wd ρ S xq _ I (fun s E1 wd1 sd S1 q1 I1 T1 ok => by
    obtain ⟨hpas, q1⟩ := q1
    obtain ⟨h1, h2, h3⟩ := ok
    have A0 : ∀ E, Agree (wipeV E vs) ρ (wipeR ρ vs) := fun E => ⟨wipeR_len _ _, fun i v h => by
      rw [lk_wipe] at h
      by_cases z : i ∈ vs
      · rw [if_pos z] at h; cases h
      · exact look_wipe vs ρ i z⟩
    -- the walk's start
    have st : Inv' wd1 (lockE s.slot E1) ρ S1 := by
      cases e : s.slot with
      | none => exact I1
      | some j =>
        obtain ⟨v, n, a1, a2, a3⟩ := h2 j e
        rw [lk_lock a1]
        exact inv_lock I1 a1 a2 a3
    obtain ⟨IW, TW⟩ := wipe_ok st (Step.refl wd1 (lockE s.slot E1) ρ S1) vs
    have IW2 := inv_swap IW (A0 _)
    have TW2 := step_swap TW (A0 _)
    refine sim_lcGo ht he hp IW2 (fun wd' E' ρ' S' T => h3 wd' E' ρ' S' (TW2.trans T)) (fun acc dacc E2 wd2 S2 q2 hn I2 T2 r2 => ?_) s.items sd.items h1 [] [] _ q1 (fun i hi => by rw [lk_wipe, if_pos hi]) _ _ IW2 (Step.refl _ _ _ _) rfl
    have A2 : Agree E2 (wipeR ρ vs) ρ := ⟨(wipeR_len _ _).symm, fun i v h => by
      by_cases z : i ∈ vs
      · rw [hn i z] at h; cases h
      · exact (look_wipe vs ρ i z).symm⟩
    have T3 := step_swap (TW2.trans T2) A2
    have I3 := inv_swap I2 A2
    have K : Keep wd1 S1 wd2 S2 := T3.keep st
    obtain ⟨I4, T4⟩ := rest_ok I1 K I3 T3 vs hpas
    have fin5 : Inv' wd2 (unE s.slot E1 (restV E1 E2 vs)) ρ S2 ∧ Step wd1 E1 ρ S1 wd2 (unE s.slot E1 (restV E1 E2 vs)) ρ S2 := by
      cases e : s.slot with
      | none => rw [e] at T4; exact ⟨I4, T4⟩
      | some j =>
        obtain ⟨v, n, a1, a2, a3⟩ := h2 j e
        rw [e, lk_lock a1] at T4
        exact unlock I1 a1 a2 a3 I4 T4
    obtain ⟨I5, T5⟩ := fin5
    exact fin1 I5 (T1.trans T5) k q2 (Res1.newL r2 keepPush)) x
end
end WW


set_option Elab.async false
set_option linter.all false
set_option maxRecDepth 100000
set_option maxHeartbeats 4000000
set_option autoImplicit false
namespace WW
open PySem PySem.Spec PyProof.Rows L2

/-! ### calls of own defs -/
/-- how an argument is handed over: a as it is (owned things are lent), k kept (owned things turn passive), io lent to be changed -/
inductive Cv where
  | a | k | io
abbrev VSpec := List V' → (V' → List P → Prop) → Prop
def bor : V' → V'
  | .p x => .p x
  | .b x => .b x
  | .o x => .b x
  | .io x => .b x
def tks : List Cv → List Hd → List Hd
  | .a :: cs, .v v :: hs => .v v :: tks cs hs
  | .a :: cs, .slot _ :: hs => tks cs hs
  | .k :: cs, h :: hs => h :: tks cs hs
  | .io :: cs, _ :: hs => tks cs hs
  | _, _ => []
def tkD : List Cv → List Hd → List D → List D
  | .a :: cs, .v _ :: hs, d :: ds => d :: tkD cs hs ds
  | .a :: cs, .slot _ :: hs, _ :: ds => tkD cs hs ds
  | .k :: cs, _ :: hs, d :: ds => d :: tkD cs hs ds
  | .io :: cs, _ :: hs, _ :: ds => tkD cs hs ds
  | _, _, _ => []
def ioSl : List Cv → List Hd → List Nat
  | .io :: cs, .slot i :: hs => i :: ioSl cs hs
  | _ :: cs, _ :: hs => ioSl cs hs
  | _, _ => []
def clash : Cv → Hd → Cv → Hd → Bool
  | .io, .slot i, .io, .slot j => i == j
  | .io, .slot i, .a, .slot j => i == j
  | .a, .slot i, .io, .slot j => i == j
  | _, _, _, _ => false
def ioOk1 (c : Cv) (h : Hd) : List Cv → List Hd → Bool
  | c' :: cs, h' :: hs => !(clash c h c' h') && ioOk1 c h cs hs
  | _, _ => true
/-- slots that are lent to be changed are named once -/
def ioOk : List Cv → List Hd → Bool
  | c :: cs, h :: hs => ioOk1 c h cs hs && ioOk cs hs
  | _, _ => true
def cvt (E : VEnv) : List Cv → List Hd → List P → Option (List V')
  | [], [], [] => some []
  | .a :: cs, .slot i :: hs, xs => match lk E i, cvt E cs hs xs with
    | some v, some us => some (bor v :: us)
    | _, _ => none
  | .a :: cs, .v _ :: hs, x :: xs => match cvt E cs hs xs with
    | some us => some (.p x :: us)
    | none => none
  | .k :: cs, _ :: hs, x :: xs => match cvt E cs hs xs with
    | some us => some (.p x :: us)
    | none => none
  | .io :: cs, .slot i :: hs, xs => match lk E i, cvt E cs hs xs with
    | some (.o x), some us => some (.io x :: us)
    | some (.io x), some us => some (.io x :: us)
    | _, _ => none
  | _, _, _ => none
def putIO (E : VEnv) : List Nat → List P → VEnv
  | i :: is, y :: ys => match lk E i with
    | some v => putIO (pt E i (some (v.re y))) is ys
    | none => putIO E is ys
  | _, _ => E
def vCall (cv : List Cv) (sp : VSpec) (a : VA) : VE := fun X E Q => a X E fun hs E1 => ioOk cv hs = true ∧ gv (takeL E1 (tks cv hs)) fun t => gv (cvt t.2 cv hs t.1) fun us => sp us fun v ys => Q (.v v) (putIO t.2 (ioSl cv hs) ys)
def IOs (E : VEnv) : Nat → List V' → List P → Prop
  | _, [], ys => ys = []
  | i, .io _ :: us, ys => ∃ y r, ys = y :: r ∧ lk E i = some (.io y) ∧ IOs E (i + 1) us r
  | i, _ :: us, ys => IOs E (i + 1) us ys
/-- a def's promise, told to the store's level -/
def up (sp : VSpec) : Spec := fun ds S Q => ∃ wd us Qv, Inv' wd (us.map some) (ds.map some) S ∧ (∀ u ∈ us, ∀ x, u ≠ .o x) ∧ sp us Qv ∧
  ∀ v ys wd' E' ρ' S' d, Qv v ys → Inv' wd' E' ρ' S' → Step wd (us.map some) (ds.map some) S wd' E' ρ' S' → RetH wd (us.map some) (ds.map some) S wd' E' ρ' S' v d → IOs E' 0 us ys → Q d S'
/-- an argument: its handle, its value, its datum -/
abbrev Arg := Hd × V' × D
def NC (s t : Arg) : Prop := ∀ a, s.1 = .slot a → t.1 = .slot a → (∀ x, s.2.1 ≠ .p x) → (∀ x, t.2.1 ≠ .p x) → ((∃ x, s.2.1 = .io x) ∨ ∃ x, t.2.1 = .io x) → False
theorem NC.symm {s t : Arg} (h : NC s t) : NC t s := fun a h1 h2 h3 h4 h5 => h a h2 h1 h4 h3 h5.symm
section
variable {wd wd0 wd1 wd2 wd' : Wd} {E E0 E1 E2 E' : VEnv} {ρ ρ0 ρ1 ρ2 ρ' : Rho} {S S0 S1 S2 S' : Sto} {L : Nat}
theorem lk_map : ∀ {us : List V'} {i : Nat} {v : V'}, lk (us.map some) i = some v ↔ us[i]? = some v
  | [], i, v => by simp [lk]
  | u :: us, 0, v => by simp [lk]
  | u :: us, i + 1, v => by
    show lk (us.map some) i = some v ↔ _
    rw [lk_map]
    simp
theorem look_map : ∀ {us : List D} {i : Nat} {v : D}, look (us.map some) i = some v ↔ us[i]? = some v
  | [], i, v => by simp [look]
  | u :: us, 0, v => by simp [look]
  | u :: us, i + 1, v => by
    show look (us.map some) i = some v ↔ _
    rw [look_map]
    simp
def ArgOk (wd : Wd) (E : VEnv) (ρ : Rho) (S : Sto) (t : Arg) : Prop :=
  (∃ x, t.2.1 = .p x ∧ RepP wd S x t.2.2) ∨ (∃ i v, t.2.1 = .b v.val ∧ t.1 = .slot i ∧ lk E i = some v ∧ look ρ i = some t.2.2 ∧ RepT wd S v.val t.2.2 ∧ ((∃ y, v = .b y) ∨ v.own = true)) ∨
    ∃ i v n, t.2.1 = .io v.val ∧ t.1 = .slot i ∧ lk E i = some v ∧ v.own = true ∧ t.2.2 = .ref n ∧ look ρ i = some (.ref n) ∧ RepT wd S v.val t.2.2
/-- the io slots, in order -/
def argIO : List Arg → List Nat
  | [] => []
  | (.slot i, .io _, _) :: r => i :: argIO r
  | _ :: r => argIO r
theorem tk_rep : ∀ {cs : List Cv} {hs : List Hd} {ds : List D}, RepHs wd E ρ S L hs ds → RepHs wd E ρ S L (tks cs hs) (tkD cs hs ds)
  | [], hs, ds, r => by
    cases hs <;> rfl
  | .a :: cs, [], ds, r => rfl
  | .k :: cs, [], ds, r => rfl
  | .io :: cs, [], ds, r => rfl
  | .a :: cs, .v v :: hs, _, r => by
    obtain ⟨d, s, rfl, r1, r2⟩ := r
    exact ⟨d, _, rfl, r1, tk_rep r2⟩
  | .a :: cs, .slot i :: hs, _, r => by
    obtain ⟨d, s, rfl, r1, r2⟩ := r
    exact tk_rep (cs := cs) r2
  | .k :: cs, h :: hs, _, r => by
    obtain ⟨d, s, rfl, r1, r2⟩ := r
    exact ⟨d, _, rfl, r1, tk_rep r2⟩
  | .io :: cs, h :: hs, _, r => by
    obtain ⟨d, s, rfl, r1, r2⟩ := r
    exact tk_rep (cs := cs) r2
theorem lent_slot (I : Inv' wd E ρ S) {i : Nat} {v : V'} {d : D} (e : lk E i = some v) (r : look ρ i = some d) : ArgOk wd E ρ S (.slot i, bor v, d) := by
  obtain ⟨d', e1, r1⟩ := I.rep i v e
  rw [r] at e1
  cases e1
  cases v with
  | p x => exact .inl ⟨x, rfl, r1⟩
  | b x => exact .inr (.inl ⟨i, _, rfl, rfl, e, r, r1, .inl ⟨x, rfl⟩⟩)
  | o x => exact .inr (.inl ⟨i, _, rfl, rfl, e, r, r1.1, .inr rfl⟩)
  | io x => exact .inr (.inl ⟨i, _, rfl, rfl, e, r, r1.1, .inr rfl⟩)
theorem io_slot (I : Inv' wd E ρ S) {i : Nat} {v : V'} {d : D} (e : lk E i = some v) (ho : v.own = true) (r : look ρ i = some d) : ArgOk wd E ρ S (.slot i, .io v.val, d) := by
  obtain ⟨d', e1, r1⟩ := I.rep i v e
  rw [r] at e1
  cases e1
  cases v with
  | p x => cases ho
  | b x => cases ho
  | o x => obtain ⟨r1, n, rfl⟩ := r1; exact .inr (.inr ⟨i, _, n, rfl, rfl, e, ho, rfl, r, r1⟩)
  | io x => obtain ⟨r1, n, rfl⟩ := r1; exact .inr (.inr ⟨i, _, n, rfl, rfl, e, ho, rfl, r, r1⟩)
theorem cvt_ok (I : Inv' wd E ρ S) : ∀ {cs : List Cv} {hs : List Hd} {xs : List P} {us : List V'} {ds : List D}, RepHs wd1 E1 ρ S1 L hs ds → cvt E cs hs xs = some us → RepL wd S xs (tkD cs hs ds) →
    ∃ l : List Arg, l.map (·.1) = hs ∧ l.map (·.2.1) = us ∧ l.map (·.2.2) = ds ∧ (∀ t ∈ l, ArgOk wd E ρ S t) ∧ argIO l = ioSl cs hs ∧ (∀ (c : Cv) (h : Hd), ioOk1 c h cs hs = true → ∀ u d, ((∃ x, u = V'.io x) → c = .io) → ((∃ x, u = V'.b x) → c = .a) → (∀ x, u ≠ V'.o x) → ∀ t ∈ l, NC (h, u, d) t) ∧ (ioOk cs hs = true → l.Pairwise NC)
  | cs, [], xs, us, ds, r, e, rl => by
    cases r
    cases cs with
    | cons c cs => cases c <;> cases e
    | nil => cases xs with
      | cons _ _ => cases e
      | nil =>
        cases e
        exact ⟨[], rfl, rfl, rfl, (fun _ h => nomatch h), rfl, (fun _ _ _ _ _ _ _ _ _ h => nomatch h), fun _ => List.Pairwise.nil⟩
  | [], _ :: _, xs, us, ds, r, e, rl => by cases xs <;> cases e
  | .a :: cs, .slot i :: hs, xs, us, _, r, e, rl => by
    obtain ⟨d, s, rfl, r1, r2⟩ := r
    unfold cvt at e
    split at e
    · rename_i v us' e1 e2
      cases e
      obtain ⟨l, a1, a2, a3, a4, a5, a6, a7⟩ := cvt_ok I r2 e2 rl
      refine ⟨(.slot i, bor v, d) :: l, by rw [List.map_cons, a1], by rw [List.map_cons, a2], by rw [List.map_cons, a3], fun t ht => ?_, ?_, fun c h hc u d' hu hb hno t ht => ?_, fun hc => ?_⟩
      · rcases List.mem_cons.mp ht with rfl | ht
        · exact lent_slot I e1 r1
        · exact a4 t ht
      · rw [← show ioSl cs hs = ioSl (.a :: cs) (.slot i :: hs) from rfl, ← a5]
        cases v <;> rfl
      · unfold ioOk1 at hc
        rw [Bool.and_eq_true_iff] at hc
        rcases List.mem_cons.mp ht with rfl | ht
        · intro a h1 h2 h3 h4 h5
          have h1 : h = .slot a := h1
          have h2 : Hd.slot i = .slot a := h2
          cases h2
          subst h1
          have hio : ∃ x, u = V'.io x := by
            rcases h5 with h5 | ⟨x, h5⟩
            · exact h5
            · cases v <;> cases h5
          obtain rfl := hu hio
          simp [clash] at hc
        · exact a6 c h hc.2 u d' hu hb hno t ht
      · unfold ioOk at hc
        rw [Bool.and_eq_true_iff] at hc
        exact List.pairwise_cons.mpr ⟨fun t ht => a6 _ _ hc.1 _ _ (fun ⟨x, z⟩ => by cases v <;> cases z) (fun _ => rfl) (fun x z => by cases v <;> cases z) t ht, a7 hc.2⟩
    · cases e
  | .a :: cs, .v v :: hs, xs, us, _, r, e, rl => by
    obtain ⟨d, s, rfl, r1, r2⟩ := r
    cases xs with
    | nil => cases e
    | cons x xs =>
    unfold cvt at e
    split at e
    · rename_i us' e2
      cases e
      obtain ⟨d1, s1, e3, r3, r4⟩ := rl.uncons
      have e3 : d :: tkD cs hs s = d1 :: s1 := e3
      cases e3
      obtain ⟨l, a1, a2, a3, a4, a5, a6, a7⟩ := cvt_ok I r2 e2 r4
      refine ⟨(.v v, .p x, d) :: l, by rw [List.map_cons, a1], by rw [List.map_cons, a2], by rw [List.map_cons, a3], fun t ht => ?_, a5, fun c h hc u d' hu hb hno t ht => ?_, fun hc => ?_⟩
      · rcases List.mem_cons.mp ht with rfl | ht
        · exact .inl ⟨x, rfl, r3⟩
        · exact a4 t ht
      · unfold ioOk1 at hc
        rw [Bool.and_eq_true_iff] at hc
        rcases List.mem_cons.mp ht with rfl | ht
        · exact fun a h1 h2 h3 h4 h5 => h4 x rfl
        · exact a6 c h hc.2 u d' hu hb hno t ht
      · unfold ioOk at hc
        rw [Bool.and_eq_true_iff] at hc
        exact List.pairwise_cons.mpr ⟨fun t ht a h1 h2 h3 h4 h5 => h3 x rfl, a7 hc.2⟩
    · cases e
  | .k :: cs, h0 :: hs, xs, us, _, r, e, rl => by
    obtain ⟨d, s, rfl, r1, r2⟩ := r
    cases xs with
    | nil => cases e
    | cons x xs =>
    unfold cvt at e
    split at e
    · rename_i us' e2
      cases e
      obtain ⟨d1, s1, e3, r3, r4⟩ := rl.uncons
      have e3 : d :: tkD cs hs s = d1 :: s1 := e3
      cases e3
      obtain ⟨l, a1, a2, a3, a4, a5, a6, a7⟩ := cvt_ok I r2 e2 r4
      refine ⟨(h0, .p x, d) :: l, by rw [List.map_cons, a1], by rw [List.map_cons, a2], by rw [List.map_cons, a3], fun t ht => ?_, ?_, fun c h hc u d' hu hb hno t ht => ?_, fun hc => ?_⟩
      · rcases List.mem_cons.mp ht with rfl | ht
        · exact .inl ⟨x, rfl, r3⟩
        · exact a4 t ht
      · rw [← show ioSl cs hs = ioSl (.k :: cs) (h0 :: hs) from rfl, ← a5]
        cases h0 <;> rfl
      · unfold ioOk1 at hc
        rw [Bool.and_eq_true_iff] at hc
        rcases List.mem_cons.mp ht with rfl | ht
        · exact fun a h1 h2 h3 h4 h5 => h4 x rfl
        · exact a6 c h hc.2 u d' hu hb hno t ht
      · unfold ioOk at hc
        rw [Bool.and_eq_true_iff] at hc
        exact List.pairwise_cons.mpr ⟨fun t ht a h1 h2 h3 h4 h5 => h3 x rfl, a7 hc.2⟩
    · cases e
  | .io :: cs, .v v :: hs, xs, us, _, r, e, rl => by cases xs <;> cases e
  | .io :: cs, .slot i :: hs, xs, us, _, r, e, rl => by
    obtain ⟨d, s, rfl, r1, r2⟩ := r
    have key : ∃ v us', lk E i = some v ∧ v.own = true ∧ cvt E cs hs xs = some us' ∧ us = .io v.val :: us' := by
      unfold cvt at e
      split at e
      · rename_i x us' e1 e2; cases e; exact ⟨_, _, e1, rfl, e2, rfl⟩
      · rename_i x us' e1 e2; cases e; exact ⟨_, _, e1, rfl, e2, rfl⟩
      · cases e
    obtain ⟨v, us', e1, ho, e2, rfl⟩ := key
    obtain ⟨l, a1, a2, a3, a4, a5, a6, a7⟩ := cvt_ok I r2 e2 rl
    refine ⟨(.slot i, .io v.val, d) :: l, by rw [List.map_cons, a1], by rw [List.map_cons, a2], by rw [List.map_cons, a3], fun t ht => ?_, ?_, fun c h hc u d' hu hb hno t ht => ?_, fun hc => ?_⟩
    · rcases List.mem_cons.mp ht with rfl | ht
      · exact io_slot I e1 ho r1
      · exact a4 t ht
    · show i :: argIO l = i :: ioSl cs hs
      rw [a5]
    · unfold ioOk1 at hc
      rw [Bool.and_eq_true_iff] at hc
      rcases List.mem_cons.mp ht with rfl | ht
      · intro a h1 h2 h3 h4 h5
        have h1 : h = .slot a := h1
        have h2 : Hd.slot i = .slot a := h2
        cases h2
        subst h1
        cases u with
        | p x => exact h3 x rfl
        | io x =>
          obtain rfl := hu ⟨x, rfl⟩
          simp [clash] at hc
        | b x =>
          have := hb ⟨x, rfl⟩
          subst this
          simp [clash] at hc
        | o x => exact hno x rfl
      · exact a6 c h hc.2 u d' hu hb hno t ht
    · unfold ioOk at hc
      rw [Bool.and_eq_true_iff] at hc
      exact List.pairwise_cons.mpr ⟨fun t ht => a6 _ _ hc.1 _ _ (fun _ => rfl) (by rintro ⟨x, z⟩; cases z) (by intro x z; cases z) t ht, a7 hc.2⟩

theorem argIO_mem : ∀ {l : List Arg} {i : Nat}, i ∈ argIO l → ∃ t ∈ l, t.1 = .slot i ∧ ∃ x, t.2.1 = .io x
  | [], _, h => nomatch h
  | (.slot j, .io x, d) :: r, i, h => by
    rcases List.mem_cons.mp h with rfl | h
    · exact ⟨_, List.mem_cons_self .., rfl, x, rfl⟩
    · obtain ⟨t, a, b⟩ := argIO_mem h
      exact ⟨t, List.mem_cons_of_mem _ a, b⟩
  | (.slot j, .p x, d) :: r, i, h => let ⟨t, a, b⟩ := argIO_mem (l := r) h; ⟨t, List.mem_cons_of_mem _ a, b⟩
  | (.slot j, .b x, d) :: r, i, h => let ⟨t, a, b⟩ := argIO_mem (l := r) h; ⟨t, List.mem_cons_of_mem _ a, b⟩
  | (.slot j, .o x, d) :: r, i, h => let ⟨t, a, b⟩ := argIO_mem (l := r) h; ⟨t, List.mem_cons_of_mem _ a, b⟩
  | (.v v, u, d) :: r, i, h => let ⟨t, a, b⟩ := argIO_mem (l := r) (by cases u <;> exact h); ⟨t, List.mem_cons_of_mem _ a, b⟩
/-- what the lent slots hold when the call is over -/
theorem putIO_ok {E' : VEnv} : ∀ {l : List Arg} {m : Nat} {ys : List P} {E : VEnv}, (∀ t ∈ l, ∀ x, t.2.1 = .io x → ∃ i v, t.1 = .slot i ∧ lk E i = some v ∧ v.own = true) → l.Pairwise NC → IOs E' m (l.map (·.2.1)) ys →
    (putIO E (argIO l) ys).length = E.length ∧ (∀ i, i ∉ argIO l → lk (putIO E (argIO l) ys) i = lk E i) ∧
    ∀ (p : Nat) (t : Arg) (i : Nat) (x : P), l[p]? = some t → t.1 = .slot i → t.2.1 = .io x → ∃ v y, lk E i = some v ∧ v.own = true ∧ lk E' (m + p) = some (.io y) ∧ lk (putIO E (argIO l) ys) i = some (v.re y)
  | [], m, ys, E, _, _, h => by
    cases (show ys = [] from h)
    exact ⟨rfl, fun _ _ => rfl, fun p t i x h => by simp at h⟩
  | s :: r, m, ys, E, hs, hp, h => by
    obtain ⟨hp1, hp2⟩ := List.pairwise_cons.mp hp
    have hs2 : ∀ t ∈ r, ∀ x, t.2.1 = .io x → ∃ i v, t.1 = .slot i ∧ lk E i = some v ∧ v.own = true := fun t ht => hs t (List.mem_cons_of_mem _ ht)
    by_cases hio : ∃ x, s.2.1 = .io x
    · obtain ⟨x, hx⟩ := hio
      obtain ⟨i, v, h1, h2, h3⟩ := hs s (List.mem_cons_self ..) x hx
      obtain ⟨sh, su, sd⟩ := s
      cases h1
      cases hx
      obtain ⟨y, ys', rfl, hy, h⟩ := h
      have nin : i ∉ argIO r := fun z => by
        obtain ⟨t, ht, e1, x', e2⟩ := argIO_mem z
        exact hp1 t ht i rfl e1 (by intro x z; cases z) (by intro x z; rw [e2] at z; cases z) (.inl ⟨x, rfl⟩)
      have eq : putIO E (argIO ((Hd.slot i, V'.io x, sd) :: r)) (y :: ys') = putIO (pt E i (some (v.re y))) (argIO r) ys' := by
        show (match lk E i with | some v => putIO (pt E i (some (v.re y))) (argIO r) ys' | none => putIO E (argIO r) ys') = _
        rw [h2]
      rw [eq]
      have hs3 : ∀ t ∈ r, ∀ x, t.2.1 = .io x → ∃ j w, t.1 = .slot j ∧ lk (pt E i (some (v.re y))) j = some w ∧ w.own = true := fun t ht x' ex => by
        obtain ⟨j, w, g1, g2, g3⟩ := hs2 t ht x' ex
        by_cases e : i = j
        · subst e
          exact ⟨i, _, g1, lk_self (lk_lt h2), re_own h3⟩
        · exact ⟨j, w, g1, by rw [lk_ne e]; exact g2, g3⟩
      obtain ⟨a0, a1, a2⟩ := putIO_ok hs3 hp2 h
      refine ⟨a0.trans (pt_len _ _ _), fun j hj => ?_, fun p t j x' ht e1 e2 => ?_⟩
      · have hj : j ∉ i :: argIO r := hj
        rw [a1 j (fun z => hj (List.mem_cons_of_mem _ z)), lk_ne (fun z => hj (by rw [z]; exact List.mem_cons_self ..))]
      · cases p with
        | zero =>
          simp at ht
          subst ht
          cases e1
          refine ⟨v, y, h2, h3, hy, ?_⟩
          rw [a1 i nin, lk_self (lk_lt h2)]
        | succ p =>
          obtain ⟨w, z, g1, g2, g3, g4⟩ := a2 p t j x' (by simpa using ht) e1 e2
          have : i ≠ j := fun e => by
            subst e
            have hm : t ∈ r := List.mem_of_getElem? (by simpa using ht : r[p]? = some t)
            exact hp1 t hm i rfl e1 (by intro x z; cases z) (by intro x z; rw [e2] at z; cases z) (.inl ⟨x, rfl⟩)
          rw [lk_ne this] at g1
          exact ⟨w, z, g1, g2, by rw [← g3]; congr 1; omega, g4⟩
    · have h : IOs E' (m + 1) (r.map (·.2.1)) ys := by
        rw [List.map_cons] at h
        revert h hio
        cases s.2.1 with
        | io x => intro h hio; exact absurd ⟨x, rfl⟩ hio
        | _ => intro h _; exact h
      have eq : argIO (s :: r) = argIO r := by
        obtain ⟨sh, su, sd⟩ := s
        cases su with
        | io x => exact absurd ⟨x, rfl⟩ hio
        | _ => cases sh <;> rfl
      rw [eq]
      obtain ⟨a0, a1, a2⟩ := putIO_ok hs2 hp2 h
      refine ⟨a0, a1, fun p t j x' ht e1 e2 => ?_⟩
      cases p with
      | zero =>
        simp at ht
        subst ht
        exact absurd ⟨x', e2⟩ hio
      | succ p =>
        obtain ⟨w, z, g1, g2, g3, g4⟩ := a2 p t j x' (by simpa using ht) e1 e2
        exact ⟨w, z, g1, g2, by rw [← g3]; congr 1; omega, g4⟩
/-- what the called def finds -/
theorem callee_inv (I : Inv' wd E ρ S) {l : List Arg} (ok : ∀ t ∈ l, ArgOk wd E ρ S t) (nc : l.Pairwise NC) :
    Inv' wd ((l.map (·.2.1)).map some) ((l.map (·.2.2)).map some) S ∧ ∀ n, OwnAt ((l.map (·.2.1)).map some) ((l.map (·.2.2)).map some) n → ∃ t ∈ l, ∃ i v, t.2.1 = .io v.val ∧ t.1 = .slot i ∧ lk E i = some v ∧ v.own = true ∧ look ρ i = some (.ref n) := by
  have get : ∀ i v, lk ((l.map (·.2.1)).map some) i = some v → ∃ t, l[i]? = some t ∧ t.2.1 = v ∧ look ((l.map (·.2.2)).map some) i = some t.2.2 := fun i v h => by
    rw [lk_map, List.getElem?_map] at h
    cases q : l[i]? with
    | none => rw [q] at h; cases h
    | some t =>
      rw [q] at h
      cases h
      exact ⟨t, rfl, rfl, by rw [look_map, List.getElem?_map, q]; rfl⟩
  have own : ∀ i v n, lk ((l.map (·.2.1)).map some) i = some v → v.own = true → look ((l.map (·.2.2)).map some) i = some (.ref n) → ∃ t, l[i]? = some t ∧ ∃ j w, t.2.1 = .io w.val ∧ t.1 = .slot j ∧ lk E j = some w ∧ w.own = true ∧ look ρ j = some (.ref n) := fun i v n h1 h2 h3 => by
    obtain ⟨t, q, rfl, e⟩ := get i v h1
    rw [e] at h3
    have h3 : t.2.2 = .ref n := Option.some.inj h3
    refine ⟨t, q, ?_⟩
    rcases ok t (List.mem_of_getElem? q) with ⟨x, e1, _⟩ | ⟨j, w, e1, _⟩ | ⟨j, w, m, e1, e2, e3, e4, e5, e6, e7⟩
    · rw [e1] at h2; cases h2
    · rw [e1] at h2; cases h2
    · rw [h3] at e5
      cases e5
      exact ⟨j, w, e1, e2, e3, e4, e6⟩
  have nc' : ∀ i j s t, l[i]? = some s → l[j]? = some t → i ≠ j → NC s t := fun i j s t hi hj hij => by
    obtain ⟨li, ei⟩ := List.getElem?_eq_some_iff.mp hi
    obtain ⟨lj, ej⟩ := List.getElem?_eq_some_iff.mp hj
    subst ei ej
    rcases Nat.lt_or_gt_of_ne hij with h | h
    · exact List.pairwise_iff_getElem.mp nc i j li lj h
    · exact (List.pairwise_iff_getElem.mp nc j i lj li h).symm
  refine ⟨⟨by simp, fun i v h => ?_, fun i j v w n h1 h2 h3 h4 h5 h6 => ?_, fun i x n h1 h2 => ?_, fun n h => ?_, I.shl, I.gok⟩, fun n ⟨i, v, h1, h2, h3⟩ => ?_⟩
  · obtain ⟨t, q, rfl, e⟩ := get i v h
    refine ⟨_, e, ?_⟩
    rcases ok t (List.mem_of_getElem? q) with ⟨x, e1, r⟩ | ⟨j, w, e1, _, _, _, r, _⟩ | ⟨j, w, m, e1, e2, e3, e4, e5, e6, e7⟩
    · rw [e1]; exact r
    · rw [e1]; exact r
    · rw [e1]; exact ⟨e7, m, e5⟩
  · obtain ⟨s, q1, a, u, s1, s2, s3, s4, s5⟩ := own i v n h1 h3 h5
    obtain ⟨t, q2, b, w', t1, t2, t3, t4, t5⟩ := own j w n h2 h4 h6
    have hab := I.one a b _ _ n s3 t3 s4 t4 s5 t5
    subst hab
    apply Decidable.byContradiction
    intro hij
    exact nc' i j s t q1 q2 hij a s2 t2 (by intro x z; rw [s1] at z; cases z) (by intro x z; rw [t1] at z; cases z) (.inl ⟨_, s1⟩)
  · obtain ⟨t, q, e0, e⟩ := get i _ h1
    rw [e] at h2
    have h2 : t.2.2 = .ref n := Option.some.inj h2
    rcases ok t (List.mem_of_getElem? q) with ⟨y, e1, _⟩ | ⟨j, w, e1, e2, e3, e4, r, e5⟩ | ⟨j, w, m, e1, _⟩
    · rw [e1] at e0; cases e0
    · rw [h2] at e4
      refine ⟨?_, ?_⟩
      · rintro ⟨i', v', g1, g2, g3⟩
        obtain ⟨t', q', j', w', t1, t2, t3, t4, t5⟩ := own i' v' n g1 g2 g3
        rcases e5 with ⟨y, rfl⟩ | e5
        · exact (I.bor j y n e3 e4).1 ⟨j', w', t3, t4, t5⟩
        · have hab := I.one j j' _ _ n e3 t3 e5 t4 e4 t5
          subst hab
          have hii : i ≠ i' := fun z => by
            subst z
            rw [q] at q'
            cases q'
            rw [e1] at t1
            cases t1
          exact nc' i i' t t' q q' hii j e2 t2 (by intro x z; rw [e1] at z; cases z) (by intro x z; rw [t1] at z; cases z) (.inr ⟨_, t1⟩)
      · rcases e5 with ⟨y, rfl⟩ | e5
        · exact (I.bor j y n e3 e4).2
        · exact (I.osh n ⟨j, w, e3, e5, e4⟩).2
    · rw [e1] at e0; cases e0
  · obtain ⟨i, v, h1, h2, h3⟩ := h
    obtain ⟨t, q, j, w, t1, t2, t3, t4, t5⟩ := own i v n h1 h2 h3
    exact I.osh n ⟨j, w, t3, t4, t5⟩
  · obtain ⟨t, q, j, w, t1, t2, t3, t4, t5⟩ := own i v n h1 h2 h3
    exact ⟨t, List.mem_of_getElem? q, j, w, t1, t2, t3, t4, t5⟩
/-- what the caller finds when the call is over -/
theorem caller_inv (I : Inv' wd E ρ S) {l : List Arg} (ok : ∀ t ∈ l, ArgOk wd E ρ S t) (nc : l.Pairwise NC) {ys : List P} {E' : VEnv} {ρ' : Rho} (I' : Inv' wd' E' ρ' S')
    (T : Step wd ((l.map (·.2.1)).map some) ((l.map (·.2.2)).map some) S wd' E' ρ' S') (hy : IOs E' 0 (l.map (·.2.1)) ys) :
    Inv' wd' (putIO E (argIO l) ys) ρ S' ∧ Step wd E ρ S wd' (putIO E (argIO l) ys) ρ S' ∧ ∀ n, OwnAt (putIO E (argIO l) ys) ρ n → OwnAt E ρ n := by
  obtain ⟨Ic, own⟩ := callee_inv I ok nc
  have hs : ∀ t ∈ l, ∀ x, t.2.1 = .io x → ∃ i v, t.1 = .slot i ∧ lk E i = some v ∧ v.own = true := fun t ht x ex => by
    rcases ok t ht with ⟨y, e1, _⟩ | ⟨j, w, e1, _⟩ | ⟨j, w, m, e1, e2, e3, e4, _⟩
    · rw [e1] at ex; cases ex
    · rw [e1] at ex; cases ex
    · exact ⟨j, w, e2, e3, e4⟩
  obtain ⟨pl, p1, p2⟩ := putIO_ok hs nc hy
  generalize putIO E (argIO l) ys = E3 at pl p1 p2 ⊢
  have K := T.keep Ic
  have ownO : ∀ n, OwnAt ((l.map (·.2.1)).map some) ((l.map (·.2.2)).map some) n → OwnAt E ρ n := fun n h => by
    obtain ⟨t, ht, i, v, e1, e2, e3, e4, e5⟩ := own n h
    exact ⟨i, v, e3, e4, e5⟩
  -- the slots, one by one
  have cs : ∀ i w, lk E3 i = some w → (i ∉ argIO l ∧ lk E i = some w) ∨ ∃ v y n p, lk E i = some v ∧ v.own = true ∧ w = v.re y ∧ look ρ i = some (.ref n) ∧ RepT wd' S' y (.ref n) ∧ (¬ wd'.sh n ∧ wd'.G n = none) := fun i w h => by
    by_cases hi : i ∈ argIO l
    · right
      obtain ⟨t, ht, e1, x, e2⟩ := argIO_mem hi
      obtain ⟨p, hp⟩ := List.mem_iff_getElem?.mp ht
      obtain ⟨v, y, g1, g2, g3, g4⟩ := p2 p t i x hp e1 e2
      rw [g4] at h
      cases h
      rcases ok t ht with ⟨z, e3, _⟩ | ⟨j, u, e3, _⟩ | ⟨j, u, n, e3, e4, e5, e6, e7, e8, e9⟩
      · rw [e3] at e2; cases e2
      · rw [e3] at e2; cases e2
      · rw [e1] at e4
        cases e4
        rw [Nat.zero_add] at g3
        obtain ⟨_, g6⟩ := T.io p y g3
        have g7 : look ((l.map (·.2.2)).map some) p = some (.ref n) := by
          rw [look_map, List.getElem?_map, hp, ← e7]
          rfl
        rw [g7] at g6
        obtain ⟨d, g8, g9⟩ := I'.rep p _ g3
        rw [g6] at g8
        cases g8
        exact ⟨v, y, n, p, g1, g2, rfl, e8, g9.1, I'.osh n ⟨p, _, g3, rfl, g6⟩⟩
    · left
      rw [p1 i hi] at h
      exact ⟨hi, h⟩
  have notIO : ∀ i v n, i ∉ argIO l → lk E i = some v → v.own = true → look ρ i = some (.ref n) → ¬ OwnAt ((l.map (·.2.1)).map some) ((l.map (·.2.2)).map some) n := fun i v n hi h1 h2 h3 h => by
    obtain ⟨t, ht, j, w, e1, e2, e3, e4, e5⟩ := own n h
    have := I.one i j v w n h1 e3 h2 e4 h3 e5
    subst this
    have mem : ∀ l : List Arg, t ∈ l → i ∈ argIO l := fun l => by
      induction l with
      | nil => intro h; cases h
      | cons s r ih =>
        intro h
        rcases List.mem_cons.mp h with rfl | h7
        · obtain ⟨a, b, c⟩ := t
          cases e2
          cases e1
          exact List.mem_cons_self ..
        · have h8 := ih h7
          obtain ⟨a, b, c⟩ := s
          cases a <;> cases b <;> first | exact List.mem_cons_of_mem _ h8 | exact h8
    exact hi (mem l ht)
  have nG : ∀ n, n < S.length → wd.G n = none → wd'.G n = none := fun n h h1 => by
    cases e : wd'.G n with
    | none => rfl
    | some φ =>
      rcases T.Gn n φ e with z | z
      · rw [h1] at z; cases z
      · omega
  have ownB : ∀ n, OwnAt E3 ρ n → OwnAt E ρ n := fun n ⟨i, w, h1, h2, h3⟩ => by
    rcases cs i w h1 with ⟨_, h⟩ | ⟨v, y, m, p, g1, g2, g3, g4, _⟩
    · exact ⟨i, w, h, h2, h3⟩
    · exact ⟨i, v, g1, g2, h3⟩
  refine ⟨⟨pl.trans I.len, fun i w h => ?_, fun i j v w n h1 h2 h3 h4 h5 h6 => ?_, fun i x n h1 h2 => ?_, fun n h => ?_, I'.shl, I'.gok⟩,
    ⟨T.len, T.shm, fun n h => ?_, T.Gm, T.Gn, fun n h => .inl (ownB n h), fun n o h h1 h2 => T.fr n o h (fun z => h1 (ownO n z)) h2, fun i x h => ?_, fun i x h => ?_, fun i x n h e => ?_⟩, ownB⟩
  · rcases cs i w h with ⟨hi, h⟩ | ⟨v, y, n, p, g1, g2, rfl, g4, g5, _⟩
    · obtain ⟨d, e, r⟩ := I.rep i w h
      refine ⟨d, e, r.keep K ?_⟩
      cases d with
      | ref m =>
        intro o ho
        cases w with
        | p x => exact K.st m o r.2 ho
        | b x => exact T.fr m o ho (fun z => (I.bor i x m h e).1 (ownO m z)) (I.bor i x m h e).2
        | o x => exact T.fr m o ho (notIO i _ m hi h rfl e) (I.osh m ⟨i, _, h, rfl, e⟩).2
        | io x => exact T.fr m o ho (notIO i _ m hi h rfl e) (I.osh m ⟨i, _, h, rfl, e⟩).2
      | _ => trivial
    · refine ⟨_, g4, ?_⟩
      cases v with
      | o x => exact ⟨g5, n, rfl⟩
      | io x => exact ⟨g5, n, rfl⟩
      | p x => cases g2
      | b x => cases g2
  · have g : ∀ i v, lk E3 i = some v → v.own = true → ∃ v', lk E i = some v' ∧ v'.own = true := fun i v h hv => by
      rcases cs i v h with ⟨_, h⟩ | ⟨w, y, n, p, g1, g2, _⟩
      · exact ⟨v, h, hv⟩
      · exact ⟨w, g1, g2⟩
    obtain ⟨v', a1, a2⟩ := g i v h1 h3
    obtain ⟨w', b1, b2⟩ := g j w h2 h4
    exact I.one i j v' w' n a1 b1 a2 b2 h5 h6
  · rcases cs i _ h1 with ⟨_, h⟩ | ⟨v, y, m, p, g1, g2, g3, _⟩
    · obtain ⟨a, b⟩ := I.bor i x n h h2
      refine ⟨fun z => a (ownB n z), nG n ?_ b⟩
      obtain ⟨d, e, r⟩ := I.rep i _ h
      rw [h2] at e
      cases e
      obtain ⟨o, ho⟩ := RepT.at_ r
      exact at_lt ho
    · cases v <;> first | (cases g2; done) | cases g3
  · obtain ⟨i, w, h1, h2, h3⟩ := h
    rcases cs i w h1 with ⟨hi, h⟩ | ⟨v, y, m, p, g1, g2, _, g4, _, g6⟩
    · have hO : OwnAt E ρ n := ⟨i, w, h, h2, h3⟩
      obtain ⟨o, ho⟩ := own_at I hO
      have hl := at_lt ho
      refine ⟨fun z => ?_, nG n hl (I.osh n hO).2⟩
      rcases T.shn n z with q | q | q
      · exact (I.osh n hO).1 q
      · omega
      · exact notIO i w n hi h h2 h3 q
    · rw [h3] at g4
      cases g4
      exact g6
  · rcases T.shn n h with q | q | q
    · exact .inl q
    · exact .inr (.inl q)
    · exact .inr (.inr (ownO n q))
  · rcases cs i _ h with ⟨_, h⟩ | ⟨v, y, m, p, g1, g2, g3, _⟩
    · exact ⟨h, rfl⟩
    · cases v <;> first | (cases g2; done) | cases g3
  · rcases cs i _ h with ⟨_, h⟩ | ⟨v, y, m, p, g1, g2, g3, _⟩
    · exact ⟨⟨_, h⟩, rfl⟩
    · cases v with
      | io z => exact ⟨⟨_, g1⟩, rfl⟩
      | o z => cases g3
      | p z => cases g2
      | b z => cases g2
  · rcases cs i _ h with ⟨_, h⟩ | ⟨v, y, m, p, g1, g2, g3, _⟩
    · exact .inl ⟨i, x, h, e⟩
    · cases v with
      | o z => exact .inl ⟨i, _, g1, e⟩
      | io z => cases g3
      | p z => cases g2
      | b z => cases g2
end
/-- a call, its arguments read -/
theorem call_core {n : Nat} {cv : List Cv} {sp : VSpec} {X : XV} {E E1 : VEnv} {Qv : Hd → VEnv → Prop} {wd wd1 : Wd} {ρ : Rho} {S S1 : Sto} {Qd : Q1} {hs : List Hd} {ds : List D} (hn : n = cv.length)
    (k : ∀ h E' wd' d S', Qv h E' → Inv' wd' E' ρ S' → Step wd E ρ S wd' E' ρ S' → RepH wd' E' ρ S' S.length h d → Qd d S')
    (q1 : ioOk cv hs = true ∧ gv (takeL E1 (tks cv hs)) fun t => gv (cvt t.2 cv hs t.1) fun us => sp us fun v ys => Qv (.v v) (putIO t.2 (ioSl cv hs) ys))
    (I1 : Inv' wd1 E1 ρ S1) (T1 : Step wd E ρ S wd1 E1 ρ S1) (r1 : RepHs wd1 E1 ρ S1 S.length hs ds) : callS n (up sp) ds S1 Qd := by
  obtain ⟨hio, q1⟩ := q1
  obtain ⟨⟨xs, E2⟩, e1, q1⟩ := gv_iff.mp q1
  obtain ⟨us, e2, q1⟩ := gv_iff.mp q1
  obtain ⟨wd2, I2, T2, r2⟩ := takeL_ok I1 T1 (tk_rep (cs := cv) r1) e1
  obtain ⟨l, a1, a2, a3, a4, a5, _, a7⟩ := cvt_ok I2 (wd1 := wd1) (E1 := E1) (S1 := S1) r1 e2 r2
  subst a1 a2 a3
  have nc := a7 hio
  obtain ⟨Ic, _⟩ := callee_inv I2 a4 nc
  have hlen : cv.length = l.length := by
    have : ∀ (cs : List Cv) (hs : List Hd) (xs : List P) (us : List V'), cvt E2 cs hs xs = some us → cs.length = us.length := by
      intro cs
      induction cs with
      | nil => intro hs xs us e; cases hs <;> cases xs <;> cases e; rfl
      | cons c cs ih =>
        intro hs xs us e
        cases hs with
        | nil => cases c <;> cases e
        | cons h hs =>
          cases c with
          | a =>
            cases h with
            | slot i =>
              unfold cvt at e
              split at e
              · rename_i e2; cases e; rw [List.length_cons, List.length_cons, ih _ _ _ e2]
              · cases e
            | v v =>
              cases xs with
              | nil => cases e
              | cons x xs =>
                unfold cvt at e
                split at e
                · rename_i e2; cases e; rw [List.length_cons, List.length_cons, ih _ _ _ e2]
                · cases e
          | k =>
            cases xs with
            | nil => cases e
            | cons x xs =>
              unfold cvt at e
              split at e
              · rename_i e2; cases e; rw [List.length_cons, List.length_cons, ih _ _ _ e2]
              · cases e
          | io =>
            cases h with
            | v v => cases xs <;> cases e
            | slot i =>
              unfold cvt at e
              split at e
              · rename_i e2; cases e; rw [List.length_cons, List.length_cons, ih _ _ _ e2]
              · rename_i e2; cases e; rw [List.length_cons, List.length_cons, ih _ _ _ e2]
              · cases e
    have := this _ _ _ _ e2
    rwa [List.length_map] at this
  refine ⟨by rw [List.length_map, hn, hlen], Qd, ⟨wd2, _, _, Ic, fun u hu x e => ?_, q1, fun v ys wd' E' ρ' S' d q2 I' T' rh hy => ?_⟩, fun _ _ h => h⟩
  · obtain ⟨t, ht, rfl⟩ := List.mem_map.mp hu
    rcases a4 t ht with ⟨y, e1, _⟩ | ⟨j, w, e1, _⟩ | ⟨j, w, m, e1, _⟩ <;> (rw [e1] at e; cases e)
  · obtain ⟨I3, T3, O3⟩ := caller_inv I2 a4 nc I' T' hy
    rw [a5] at I3 T3 O3
    refine k _ _ _ _ _ q2 I3 (T2.trans T3) ?_
    match v, rh with
    | .p x, rh => exact rh
    | .o x, ⟨rh, m, em, h1, h2, h3, h4⟩ =>
      have hm : S1.length ≤ m := by
        rcases h4 with h4 | ⟨j, y, h5, _⟩
        · exact h4
        · rw [lk_map] at h5
          obtain ⟨t, ht, e⟩ := List.mem_map.mp (List.mem_of_getElem? h5)
          rcases a4 t ht with ⟨y, e1, _⟩ | ⟨j, w, e1, _⟩ | ⟨j, w, m, e1, _⟩ <;> (rw [e1] at e; cases e)
      refine ⟨rh, m, em, Nat.le_trans T1.len hm, h1, h2, fun z => ?_⟩
      obtain ⟨o, ho⟩ := own_at I2 (O3 m z)
      have := at_lt ho
      omega
theorem sim_call {n : Nat} {cv : List Cv} {sp : VSpec} {wa : WA} {ra : VA} (hn : n = cv.length) (ha : SimA wa ra) : SimE (wCall n (up sp) wa) (vCall cv sp ra) := fun X E Qv q wd ρ S xq Qd I k x =>
  ha X E _ q wd ρ S xq _ I (fun hs E1 wd1 ds S1 q1 I1 T1 r1 => call_core (X := X) hn k q1 I1 T1 r1) x
theorem cvt_len {E2 : VEnv} : ∀ (cs : List Cv) (hs : List Hd) (xs : List P) (us : List V'), cvt E2 cs hs xs = some us → cs.length = us.length := by
  intro cs
  induction cs with
  | nil => intro hs xs us e; cases hs <;> cases xs <;> cases e; rfl
  | cons c cs ih =>
    intro hs xs us e
    cases hs with
    | nil => cases c <;> cases e
    | cons h hs =>
      cases c with
      | a =>
        cases h with
        | slot i =>
          unfold cvt at e
          split at e
          · rename_i e2; cases e; rw [List.length_cons, List.length_cons, ih _ _ _ e2]
          · cases e
        | v v =>
          cases xs with
          | nil => cases e
          | cons x xs =>
            unfold cvt at e
            split at e
            · rename_i e2; cases e; rw [List.length_cons, List.length_cons, ih _ _ _ e2]
            · cases e
      | k =>
        cases xs with
        | nil => cases e
        | cons x xs =>
          unfold cvt at e
          split at e
          · rename_i e2; cases e; rw [List.length_cons, List.length_cons, ih _ _ _ e2]
          · cases e
      | io =>
        cases h with
        | v v => cases xs <;> cases e
        | slot i =>
          unfold cvt at e
          split at e
          · rename_i e2; cases e; rw [List.length_cons, List.length_cons, ih _ _ _ e2]
          · rename_i e2; cases e; rw [List.length_cons, List.length_cons, ih _ _ _ e2]
          · cases e
end WW


set_option Elab.async false
set_option linter.all false
set_option maxRecDepth 100000
set_option maxHeartbeats 4000000
set_option autoImplicit false
namespace WW
open PySem PySem.Spec PyProof.Rows L2

/-! ### loops over an owned dict's keys -/
def unD (i : Nat) (v : V') (E : VEnv) (Q : VEnv → Prop) : Prop := match lk E i with
  | some (.b _) => Q (pt E i (some v))
  | _ => False
def vForD (i : Nat) (p : Pat) (b : VS) : VS := fun kv E => gv (lk E i) fun v => match v.val with
  | .dct t kvs => v.own = true ∧ t < 2 ∧ vForGo p b ⟨fun E' => unD i v E' kv.nx, fun _ _ => False, fun E' => unD i v E' kv.bk, fun E' => unD i v E' kv.ct, noXV⟩ (kvs.map (·.1)) (pt E i (some (.b (.dct (t + 10) kvs))))
  | _ => False
section
variable {wd wd0 wd1 wd2 wd' : Wd} {E E0 E1 E2 E' : VEnv} {ρ ρ0 ρ1 ρ2 ρ' : Rho} {S S0 S1 S2 S' : Sto} {x : WS} {vx : VS}
theorem pt_pt : ∀ {E : VEnv} {i : Nat} {a b : Option V'}, pt (pt E i a) i b = pt E i b
  | [], _, _, _ => rfl
  | _ :: _, 0, _, _ => rfl
  | x :: r, i + 1, a, b => by
    show x :: pt (pt r i a) i b = x :: pt r i b
    rw [pt_pt]
theorem re_re {v : V'} {y z : P} : (v.re y).re z = v.re z := by cases v <;> rfl
theorem re_self {v : V'} {y : P} (h : v.val = y) : v.re y = v := by cases v <;> (cases h; rfl)
theorem keys_rep {wd : Wd} {S : Sto} {κ : Type} {f : κ → P} {g : κ → D} (h : ∀ k, RepP wd S (f k) (g k)) : ∀ {kds : List (κ × D)} {kvs : List (P × P)}, kds.map (fun kv => f kv.1) = kvs.map (·.1) → RepL wd S (kvs.map (·.1)) (kds.map fun kv => g kv.1)
  | [], [], _ => rfl
  | [], _ :: _, e => by cases e
  | _ :: _, [], e => by cases e
  | a :: r, b :: s, e => by
    rw [List.map_cons, List.map_cons] at e
    injection e with e1 e2
    rw [List.map_cons, List.map_cons, ← e1]
    exact RepL.cons (h _) (keys_rep h e2)
theorem kP_rep {wd : Wd} {S : Sto} (k : Key) : RepP wd S (kP k) (kD k) := by cases k <;> exact ⟨rfl, trivial⟩
theorem kPs_rep {wd : Wd} {S : Sto} : ∀ ks : List Key, RepL wd S (ks.map kP) (ks.map kD)
  | [] => rfl
  | k :: r => RepL.cons (kP_rep k) (kPs_rep r)
/-- the loop over a dict that is changed to ob1 while it runs, and back to ob0 -/
theorem dict_loop (hx : SimS x vx) {i n : Nat} {p : Pat} {kv : KV} {k : KK} {v : V'} {x0 x1 : P} {ob0 ob1 : O} {xs : List P} {ds : List D} (I : Inv' wd E ρ S) (R : RefS kv k wd E ρ S) (e : lk E i = some v) (ho : v.own = true) (hl : look ρ i = some (.ref n)) (hv : v.val = x0) (h0 : S[n]? = some ob0)
    (r1 : ∀ wd' S', Keep wd S wd' S' → S'[n]? = some ob1 → RepT wd' S' x1 (.ref n)) (r0 : ∀ wd' S', Keep wd S wd' S' → S'[n]? = some ob0 → RepT wd' S' x0 (.ref n)) (rl : ∀ wd S, RepL wd S xs ds)
    (q : vForGo p vx ⟨fun E' => unD i v E' kv.nx, fun _ _ => False, fun E' => unD i v E' kv.bk, fun E' => unD i v E' kv.ct, noXV⟩ xs (pt E i (some (.b x1)))) : forGo (fun _ => True) p x (unlK k n ob0) ds ρ (S.set n ob1) := by
  have kid : Keep wd S wd S := Keep.refl _ _
  obtain ⟨I1, T1⟩ := own_write (x' := x1) (ob := ob1) I e ho hl fun S' K => r1 wd S' K
  have e1 : lk (pt E i (some (v.re x1))) i = some (v.re x1) := lk_self (lk_lt e)
  have I2 := inv_lock I1 e1 (re_own ho) hl
  rw [re_val, pt_pt] at I2
  have back : ∀ (Q : VEnv → Prop) E' wd' ρ' S', unD i v E' Q → Inv' wd' E' ρ' S' → Step wd (pt E i (some (.b x1))) ρ (S.set n ob1) wd' E' ρ' S' → ∃ E'', Q E'' ∧ Inv' wd' E'' ρ' (S'.set n ob0) ∧ Step wd E ρ S wd' E'' ρ' (S'.set n ob0) := fun Q E' wd' ρ' S' q I' T => by
    unfold unD at q
    split at q
    · rename_i y hb
      have T' : Step wd (pt (pt E i (some (v.re x1))) i (some (.b (v.re x1).val))) ρ (S.set n ob1) wd' E' ρ' S' := by
        rw [re_val, pt_pt]; exact T
      obtain ⟨I3, T3⟩ := unlock I1 e1 (re_own ho) hl I' T'
      have hu : unE (some i) (pt E i (some (v.re x1))) E' = pt E' i (some (v.re x1)) := by
        unfold unE
        simp only [hb, e1]
      rw [hu] at I3 T3
      obtain ⟨_, b2⟩ := T.bor i y hb
      have K := (T1.trans T3).keep I
      obtain ⟨I4, T4⟩ := own_write (x' := x0) (ob := ob0) I3 (lk_self (lk_lt hb)) (re_own ho) (b2.trans hl) fun S'' K' => r0 wd' S'' ⟨fun n h => K'.shm n (K.shm n h), fun n φ h => K'.Gm n φ (K.Gm n φ h), fun n o h e => K'.st n o (K.shm n h) (K.st n o h e)⟩
      rw [re_re, re_self hv, pt_pt] at I4 T4
      exact ⟨_, q, I4, (T1.trans T3).trans T4⟩
    · exact q.elim
  refine sim_forGo hx I2 (fun _ _ _ _ _ => trivial) xs ds (rl _ _) _ q _ _ _ I2 (Step.refl _ _ _ _) ⟨fun E' wd' ρ' S' q I' T => ?_, fun _ _ _ _ _ _ q => q.elim, fun E' wd' ρ' S' q I' T => ?_, fun E' wd' ρ' S' q I' T => ?_, fun _ _ _ _ _ _ _ q => q.elim⟩
  · obtain ⟨E'', q, I3, T3⟩ := back _ _ _ _ _ q I' T
    exact R.nx _ _ _ _ q I3 T3
  · obtain ⟨E'', q, I3, T3⟩ := back _ _ _ _ _ q I' T
    exact R.bk _ _ _ _ q I3 T3
  · obtain ⟨E'', q, I3, T3⟩ := back _ _ _ _ _ q I' T
    exact R.ct _ _ _ _ q I3 T3
theorem sim_forD {i : Nat} {p : Pat} (hx : SimS x vx) : SimS (wForN i p x) (vForD i p vx) := fun kv E q k wd ρ S I R => by
  obtain ⟨v, e, q⟩ := gv_iff.mp q
  split at q
  · rename_i t kvs hv
    obtain ⟨ho, ht, q⟩ := q
    obtain ⟨d, e1, r⟩ := I.rep i v e
    have rt := r.top
    rw [hv] at rt
    obtain ⟨n, ds, rfl, h, rk⟩ := rt
    refine gv_iff.mpr ⟨_, e1, .inr ?_⟩
    match t, ht, h, q with
    | 0, _, ⟨kds, g1, g2, g3⟩, q =>
      subst g2
      exact .inl ⟨kds, g1, dict_loop (x1 := .dct 10 kvs) hx I R e ho e1 hv g1 (fun wd' S' K e => ⟨n, _, rfl, ⟨kds, e, rfl, g3⟩, RepK.keep K _ _ rk⟩) (fun wd' S' K e => ⟨n, _, rfl, ⟨kds, e, rfl, g3⟩, RepK.keep K _ _ rk⟩) (fun wd S => keys_rep kP_rep g3) q⟩
    | 1, _, ⟨kds, g1, g2, g3⟩, q =>
      subst g2
      exact .inr ⟨kds, g1, dict_loop (x1 := .dct 11 kvs) hx I R e ho e1 hv g1 (fun wd' S' K e => ⟨n, _, rfl, ⟨kds, e, rfl, g3⟩, RepK.keep K _ _ rk⟩) (fun wd' S' K e => ⟨n, _, rfl, ⟨kds, e, rfl, g3⟩, RepK.keep K _ _ rk⟩) (fun wd S => keys_rep (f := fun ks => P.tup (ks.map kP)) (g := fun ks => .tup (ks.map kD)) (fun ks => repP_tup (kPs_rep ks)) g3) q⟩
  · exact q.elim
end

/-- sorted(.., key=f) -/
def vSrtK (dom : Int → Prop) (key : Int → Int) (a : VE) : VE := fun X E Q => a X E fun h E1 => gv (rd E1 h) fun x => ∃ ns : List Int, x = .lst (ns.map .int) ∧ (∀ n ∈ ns, dom n) ∧ Q (.v (.o (.lst ((ns.mergeSort fun x y => decide (key x ≤ key y)).map .int)))) E1
theorem sim_srtK {dom : Int → Prop} {key : Int → Int} {a : W} {va : VE} (ha : SimE a va) : SimE (wSrtK dom key a) (vSrtK dom key va) := fun X E Qv q wd ρ S xq Qd I k x =>
  ha X E _ q wd ρ S xq _ I (fun h1 E1 wd1 d1 S1 q1 I1 T1 r1 => by
    obtain ⟨x, e1, ns, rfl, hd, q1⟩ := gv_iff.mp q1
    obtain ⟨n, ds, rfl, h, r⟩ := rd_rep I1 r1 e1
    exact ⟨ns, by rw [h, repL_ints r], hd, fin1 I1 T1 k q1 (Res1.newL (repL_int _) keepPush)⟩) x

abbrev oLt : VO := oCmp fun i j => decide (i < j)
abbrev oLe : VO := oCmp fun i j => decide (i ≤ j)
abbrev oGt : VO := oCmp fun i j => decide (j < i)
abbrev oGe : VO := oCmp fun i j => decide (j ≤ i)
/-! ### a def: what it promises is what its code says -/
def outs (E : VEnv) : Nat → List V' → Option (List P)
  | _, [] => some []
  | i, .io _ :: us => match lk E i with
    | some (.io y) => (outs E (i + 1) us).map (y :: ·)
    | _ => none
  | i, _ :: us => outs E (i + 1) us
def kvOf (us : List V') (Q : V' → List P → Prop) : KV := ⟨fun E => gv (outs E 0 us) (Q (.p .non)), fun v E => gv (outs E 0 us) (Q v), fun _ => False, fun _ => False, noXV⟩
def envOf (n : Nat) (us : List V') : VEnv := us.map some ++ List.replicate (n - us.length) none
def wpOf (n : Nat) (vc : VS) : VSpec := fun us Q => vc (kvOf us Q) (envOf n us)
section
variable {wd wd0 wd1 wd2 wd' : Wd} {E E0 E1 E2 E' : VEnv} {ρ ρ0 ρ1 ρ2 ρ' : Rho} {S S0 S1 S2 S' : Sto}
theorem outs_ok : ∀ {us : List V'} {i : Nat} {ys : List P}, outs E i us = some ys → IOs E i us ys
  | [], _, _, e => by cases e; rfl
  | .io x :: us, i, ys, e => by
    unfold outs at e
    split at e
    · rename_i y h
      cases q : outs E (i + 1) us with
      | none => rw [q] at e; cases e
      | some zs =>
        rw [q] at e
        cases e
        exact ⟨y, zs, rfl, h, outs_ok q⟩
    · cases e
  | .p x :: us, i, ys, e => outs_ok (us := us) (i := i + 1) e
  | .b x :: us, i, ys, e => outs_ok (us := us) (i := i + 1) e
  | .o x :: us, i, ys, e => outs_ok (us := us) (i := i + 1) e
theorem lk_pad : ∀ {us : VEnv} {n i : Nat} {v : V'}, lk (us ++ List.replicate n none) i = some v ↔ lk us i = some v
  | [], n, i, v => by
    constructor
    · intro h
      exfalso
      rw [List.nil_append] at h
      have : ∀ n i, lk (List.replicate n none) i = none := by
        intro n
        induction n with
        | zero => intro i; rfl
        | succ n ih => intro i; cases i with
          | zero => rfl
          | succ i => exact ih i
      rw [this] at h
      cases h
    · intro h; cases h
  | u :: us, n, 0, v => Iff.rfl
  | u :: us, n, i + 1, v => lk_pad (us := us)
theorem look_pad : ∀ {us : Rho} {n i : Nat}, i < us.length → look (us ++ List.replicate n none) i = look us i
  | [], _, _, h => absurd h (Nat.not_lt_zero _)
  | u :: us, n, 0, _ => rfl
  | u :: us, n, i + 1, h => look_pad (us := us) (Nat.lt_of_succ_lt_succ h)
theorem own_pad (hl : E.length = ρ.length) {n m a : Nat} : OwnAt (E ++ List.replicate n none) (ρ ++ List.replicate m none) a ↔ OwnAt E ρ a := by
  constructor
  · rintro ⟨i, v, h1, h2, h3⟩
    have h1 := lk_pad.mp h1
    exact ⟨i, v, h1, h2, by rw [look_pad (by rw [← hl]; exact lk_lt h1)] at h3; exact h3⟩
  · rintro ⟨i, v, h1, h2, h3⟩
    exact ⟨i, v, lk_pad.mpr h1, h2, by rw [look_pad (by rw [← hl]; exact lk_lt h1)]; exact h3⟩
theorem inv_pad (I : Inv' wd E ρ S) (n : Nat) : Inv' wd (E ++ List.replicate n none) (ρ ++ List.replicate n none) S := by
  have lp : ∀ i v, lk (E ++ List.replicate n none) i = some v → lk E i = some v ∧ look (ρ ++ List.replicate n none) i = look ρ i := fun i v h => by
    have h := lk_pad.mp h
    exact ⟨h, look_pad (by rw [← I.len]; exact lk_lt h)⟩
  refine ⟨by simp [I.len], fun i v h => ?_, fun i j v w a h1 h2 h3 h4 h5 h6 => ?_, fun i x a h1 h2 => ?_, fun a h => I.osh a ((own_pad I.len).mp h), I.shl, I.gok⟩
  · obtain ⟨h1, h2⟩ := lp i v h
    rw [h2]
    exact I.rep i v h1
  · obtain ⟨a1, a2⟩ := lp i v h1
    obtain ⟨b1, b2⟩ := lp j w h2
    exact I.one i j v w a a1 b1 h3 h4 (by rw [← a2]; exact h5) (by rw [← b2]; exact h6)
  · obtain ⟨a1, a2⟩ := lp i _ h1
    obtain ⟨p, q⟩ := I.bor i x a a1 (by rw [← a2]; exact h2)
    exact ⟨fun z => p ((own_pad I.len).mp z), q⟩
theorem step_unpad (hl : E.length = ρ.length) {n : Nat} (T : Step wd (E ++ List.replicate n none) (ρ ++ List.replicate n none) S wd' E' ρ' S') : Step wd E ρ S wd' E' ρ' S' := by
  have op := @own_pad E ρ hl n n
  have lp : ∀ i v, lk (E ++ List.replicate n none) i = some v → lk E i = some v ∧ look (ρ ++ List.replicate n none) i = look ρ i := fun i v h => by
    have h := lk_pad.mp h
    exact ⟨h, look_pad (by rw [← hl]; exact lk_lt h)⟩
  refine ⟨T.len, T.shm, fun a h => ?_, T.Gm, T.Gn, fun a h => (T.own a h).imp op.mp id, fun a o h h1 h2 => T.fr a o h (fun z => h1 (op.mp z)) h2, fun i x h => ?_, fun i x h => ?_, fun i x a h e => ?_⟩
  · rcases T.shn a h with q | q | q
    · exact .inl q
    · exact .inr (.inl q)
    · exact .inr (.inr (op.mp q))
  · obtain ⟨a, b⟩ := T.bor i x h
    obtain ⟨c, d⟩ := lp i _ a
    exact ⟨c, b.trans d⟩
  · obtain ⟨⟨y, a⟩, b⟩ := T.io i x h
    obtain ⟨c, d⟩ := lp i _ a
    exact ⟨⟨y, c⟩, b.trans d⟩
  · rcases T.oo i x a h e with ⟨j, y, b, c⟩ | q
    · obtain ⟨g, h⟩ := lp j _ b
      exact .inl ⟨j, y, g, by rw [← h]; exact c⟩
    · exact .inr q
end
theorem good_up {n m : Nat} {c : WS} {vc : VS} (h : SimS c vc) : Good n m c (up (wpOf n vc)) := fun ds S Q hm ⟨wd, us, Qv, I, no, q, post⟩ => by
  have hlen : us.length = ds.length := by simpa using I.len
  have hl : (us.map some).length = (ds.map some).length := by simpa using hlen
  unfold wpOf at q
  have I2 := inv_pad I (n - us.length)
  refine h _ _ q _ wd _ S (by unfold rhoOf; rw [← hlen]; exact I2) ?_
  have T0 : ∀ {wd' E' ρ' S'}, Step wd (envOf n us) (rhoOf n ds) S wd' E' ρ' S' → Step wd (us.map some) (ds.map some) S wd' E' ρ' S' := fun T => by
    unfold envOf rhoOf at T
    rw [← hlen] at T
    exact step_unpad hl T
  have noo : ∀ j y, lk (envOf n us) j ≠ some (.o y) := fun j y z => by
    have z := lk_pad.mp z
    rw [lk_map] at z
    exact no _ (List.mem_of_getElem? z) y rfl
  have fin : ∀ v E' wd' ρ' S' d, gv (outs E' 0 us) (Qv v) → Inv' wd' E' ρ' S' → Step wd (envOf n us) (rhoOf n ds) S wd' E' ρ' S' → RetH wd (envOf n us) (rhoOf n ds) S wd' E' ρ' S' v d → Q d S' := fun v E' wd' ρ' S' d q I' T r => by
    obtain ⟨ys, e, q⟩ := gv_iff.mp q
    refine post v ys wd' E' ρ' S' d q I' (T0 T) ?_ (outs_ok e)
    match v, r with
    | .p x, r => exact r
    | .o x, ⟨r, a, e1, h1, h2, h3, h4⟩ =>
      refine ⟨r, a, e1, h1, h2, h3, .inl ?_⟩
      rcases h4 with h4 | ⟨j, y, h5, _⟩
      · exact h4
      · exact absurd h5 (noo j y)
  refine ⟨fun E' wd' ρ' S' q I' T => fin (.p .non) E' wd' ρ' S' .non q I' T repP_non, fun v E' wd' ρ' S' d q I' T r => fin v E' wd' ρ' S' d q I' T r, fun _ _ _ _ q => q.elim, fun _ _ _ _ q => q.elim, fun _ _ _ _ _ _ _ q => q.elim⟩
/-- a def that is not called: nothing is promised -/
def vno : VSpec := fun _ _ => False
/-- a law's own def, asked at its script -/
theorem good_start {n : Nat} {c : WS} {vc : VS} (h : SimS c vc) (hq : ∀ ns : List Int, wpOf n vc [.p (.fro (ns.map .int))] fun v _ => v = .p (.bl true)) : ∀ (ns : List Int) (S : Sto) (Q : Q1), (∀ S', Q (.bl true) S') → c (kkOf Q) (rhoOf n [.fro (ns.map D.int)]) S := fun ns S Q q => by
  refine good_up (m := 1) h [.fro (ns.map D.int)] S Q rfl ⟨⟨fun _ => False, fun _ => none⟩, [.p (.fro (ns.map .int))], fun v _ => v = .p (.bl true), ?_, fun u hu x e => ?_, hq ns, fun v ys wd' E' ρ' S' d e I' T r _ => ?_⟩
  · have noO : ∀ n, ¬ OwnAt [some (V'.p (.fro (ns.map .int)))] [some (D.fro (ns.map D.int))] n := fun n ⟨i, v, h1, h2, _⟩ => by
      cases i with
      | zero => cases h1; cases h2
      | succ i => cases i <;> cases h1
    refine ⟨rfl, fun i v h => ?_, fun i j v w a h1 h2 h3 h4 _ _ => ?_, fun i x a h1 _ => ?_, fun a h => absurd h (noO a), fun a h => h.elim, fun a φ h => by cases h⟩
    · cases i with
      | zero => cases h; exact ⟨_, rfl, ⟨⟨_, rfl, repL_int ns⟩, trivial⟩⟩
      | succ i => cases i <;> cases h
    · cases i with
      | zero => cases h1; cases h3
      | succ i => cases i <;> cases h1
    · cases i with
      | zero => cases h1
      | succ i => cases i <;> cases h1
  · rw [List.mem_singleton] at hu
    subst hu
    cases e
  · subst e
    cases (show d = _ from r.1)
    exact q S'
def sp_lawW : Spec := fun ds S Q => ∃ ns : List Int, ds = [.fro (ns.map .int)] ∧ ∀ S', Q (.bl true) S'
theorem good_lawW {n : Nat} {c : WS} {vc : VS} (h : SimS c vc) (hq : ∀ ns : List Int, wpOf n vc [.p (.fro (ns.map .int))] fun v _ => v = .p (.bl true)) : Good n 1 c sp_lawW := fun ds S Q _ ⟨ns, e, q⟩ => by
  subst e
  exact good_start h hq ns S Q q
theorem known_vno {P : Program} {w : World} {K : PySem.W.Frag} {mg : Str → Option Value} {base : Heap} {x qual : Str} {st : Stmt} {f : Addr} {fd : FuncData} {ps : List Str} {k m : Nat} (F : Fun K x qual st f fd) (hm : mg x = some (.ref f)) (hb : Binds K fd ps []) : Known P w K mg base k x m (up vno) :=
  ⟨f, fd, ps, ⟨fun vs H Q E ⟨_, _, _, _, _, _, _, ⟨_, _, _, _, _, z, _⟩, _⟩ => z.elim, fun _ _ _ _ _ _ _ _ _ _ _ _ _ ⟨_, _, _, _, _, _, _, ⟨_, _, _, _, _, z, _⟩, _⟩ => z.elim⟩, hm, F.kp, hb⟩
end WW


set_option Elab.async false
set_option linter.all false
set_option maxRecDepth 100000
set_option maxHeartbeats 4000000
set_option autoImplicit false
namespace WW
open PySem PySem.Spec PyProof.Rows L2

/-! ### running codes over values: the readings applied -/
/-- what is not looked into before it is asked -/
inductive Tag.{u} {α : Sort u} (x : α) : Type where
  | mk
def hold {α : Sort _} (x : α) (t : Tag x := Tag.mk) : α := x
theorem hold1 {α : Sort _} {β : α → Sort _} (f : (a : α) → β a) (t : Tag f) (x : α) : hold f t x = f x := (rfl)
inductive Tag2 (A B : Prop) : Type where
  | mk
def cnd (b : Bool) (A B : Prop) (t : Tag2 A B := Tag2.mk) : Prop := if b = true then A else B
theorem cnd_t {A B : Prop} {t : Tag2 A B} : cnd true A B t = A := (rfl)
theorem cnd_f {A B : Prop} {t : Tag2 A B} : cnd false A B t = B := (rfl)
theorem cnd_pos {p : Prop} [Decidable p] {A B : Prop} {t : Tag2 A B} (h : p) : cnd (decide p) A B t = A := by rw [decide_eq_true h]; rfl
theorem cnd_neg {p : Prop} [Decidable p] {A B : Prop} {t : Tag2 A B} (h : ¬ p) : cnd (decide p) A B t = B := by rw [decide_eq_false h]; rfl
theorem cnd_by {p : Prop} [Decidable p] {A B : Prop} {t : Tag2 A B} (h1 : p → A) (h2 : ¬ p → B) : cnd (decide p) A B t := by
  by_cases h : p
  · rw [cnd_pos h]; exact h1 h
  · rw [cnd_neg h]; exact h2 h
theorem cnd_no {p : Prop} [Decidable p] {A B : Prop} {t : Tag2 A B} (h1 : p → B) (h2 : ¬ p → A) : cnd (!decide p) A B t := by
  by_cases h : p
  · rw [decide_eq_true h]; exact h1 h
  · rw [decide_eq_false h]; exact h2 h
theorem cnd_b {b : Bool} {A B : Prop} {t : Tag2 A B} (h1 : b = true → A) (h2 : b = false → B) : cnd b A B t := by
  cases b with
  | true => exact h1 rfl
  | false => exact h2 rfl
/-- what follows, kept small: inside a loop, in a row, over a lock -/
def kvL (N : VEnv → Prop) (kv : KV) : KV := { kv with nx := N, ct := N, bk := kv.nx }
def kvS (g : VS) (kv : KV) : KV := { kv with nx := g kv }
def kvU (j : Nat) (E0 : VEnv) (kv : KV) : KV := unK (some j) E0 kv
def kvD (i : Nat) (v : V') (kv : KV) : KV := ⟨fun E' => unD i v E' kv.nx, fun _ _ => False, fun E' => unD i v E' kv.bk, fun E' => unD i v E' kv.ct, noXV⟩
section
variable {N : VEnv → Prop} {g : VS} {kv : KV} {j : Nat} {E0 E : VEnv} {v w : V'}
theorem kL_nx : (kvL N kv).nx = N := (rfl)
theorem kL_ct : (kvL N kv).ct = N := (rfl)
theorem kL_bk : (kvL N kv).bk = kv.nx := (rfl)
theorem kL_rt : (kvL N kv).rt = kv.rt := (rfl)
theorem kL_ex : (kvL N kv).ex = kv.ex := (rfl)
theorem kS_nx : (kvS g kv).nx = g kv := (rfl)
theorem kS_ct : (kvS g kv).ct = kv.ct := (rfl)
theorem kS_bk : (kvS g kv).bk = kv.bk := (rfl)
theorem kS_rt : (kvS g kv).rt = kv.rt := (rfl)
theorem kS_ex : (kvS g kv).ex = kv.ex := (rfl)
theorem kU_nx : (kvU j E0 kv).nx E = kv.nx (unE (some j) E0 E) := (rfl)
theorem kU_ct : (kvU j E0 kv).ct E = kv.ct (unE (some j) E0 E) := (rfl)
theorem kU_bk : (kvU j E0 kv).bk E = kv.bk (unE (some j) E0 E) := (rfl)
theorem kU_rt : (kvU j E0 kv).rt v E = kv.rt v (unE (some j) E0 E) := (rfl)
theorem kD_nx : (kvD j w kv).nx E = unD j w E kv.nx := (rfl)
theorem kD_ct : (kvD j w kv).ct E = unD j w E kv.ct := (rfl)
theorem kD_bk : (kvD j w kv).bk E = unD j w E kv.bk := (rfl)
theorem kD_ex : (kvD j w kv).ex = noXV := (rfl)
end
theorem o_cmpI {f : Int → Int → Bool} {i j : Int} {Q : V' → Prop} : oCmp f (.int i) (.int j) Q = Q (.p (.bl (f i j))) := by
  show (True ∧ _) = _
  rw [true_and]
theorem o_ltI {i j : Int} {Q : V' → Prop} : oLt (.int i) (.int j) Q = Q (.p (.bl (decide (i < j)))) := o_cmpI
theorem o_leI {i j : Int} {Q : V' → Prop} : oLe (.int i) (.int j) Q = Q (.p (.bl (decide (i ≤ j)))) := o_cmpI
theorem o_gtI {i j : Int} {Q : V' → Prop} : oGt (.int i) (.int j) Q = Q (.p (.bl (decide (j < i)))) := o_cmpI
theorem o_geI {i j : Int} {Q : V' → Prop} : oGe (.int i) (.int j) Q = Q (.p (.bl (decide (j ≤ i)))) := o_cmpI
section
variable {X : XV} {E E0 : VEnv} {Q : Hd → VEnv → Prop} {kv : KV} {i j : Nat} {x y : P} {v : V'} {o p : VO} {a b c : VE} {t u : VT} {r : VA} {f g : VS} {QA : List Hd → VEnv → Prop} {QT : Bool → VEnv → Prop} {QO : Option Int → VEnv → Prop} {QI : VSrc → VEnv → Prop} {vs : List Nat} {vi : VI} {pt' : Pat} {lo hi : VP} {gc : VC} {cv : List Cv} {sp : VSpec}
theorem av_var : vVar i X E Q = gv (lk E i) (hold fun _ => Q (.slot i) E) := (rfl)
theorem av_cst : vCst x X E Q = Q (.v (.p x)) E := (rfl)
theorem av_op : vOp o a b X E Q = a X E (hold fun h E1 => b X E1 (hold fun g E2 => gv (rd E2 h) (hold fun x => gv (rd E2 g) (hold fun y => o x y (hold fun v => Q (.v v) E2))))) := (rfl)
theorem av_neg : vNeg a X E Q = a X E (hold fun h E1 => gv (rd E1 h) (hold fun x => intP x (hold fun i => Q (.v (.p (.int (-i)))) E1))) := (rfl)
theorem av_notV : vNotV a X E Q = a X E (hold fun h E1 => gv (rd E1 h) (hold fun x => truP x (hold fun k => Q (.v (.p (.bl (!k)))) E1))) := (rfl)
theorem av_andV : vAndV a b X E Q = a X E (hold fun h E1 => gv (rd E1 h) (hold fun x => truP x (hold fun k => cnd k (b X E1 Q) (Q h E1)))) := (rfl)
theorem av_orV : vOrV a b X E Q = a X E (hold fun h E1 => gv (rd E1 h) (hold fun x => truP x (hold fun k => cnd k (Q h E1) (b X E1 Q)))) := (rfl)
theorem av_chain : vChain o p a b c X E Q = a X E (hold fun h E1 => b X E1 (hold fun g E2 => gv (rd E2 h) (hold fun x => gv (rd E2 g) (hold fun y => o x y (hold fun v => blP v.val (hold fun k =>
  cnd k (c X E2 (hold fun f E4 => gv (rd E4 g) (hold fun y => gv (rd E4 f) (hold fun z => p y z (hold fun v => Q (.v v) E4))))) (Q (.v (.p (.bl false))) E2))))))) := (rfl)
theorem av_if : vIf t a b X E Q = t X E (hold fun k E1 => cnd k (a X E1 Q) (b X E1 Q)) := (rfl)
theorem av_nil : vNil X E QA = QA [] E := (rfl)
theorem av_cons : vCons a r X E QA = a X E (hold fun h E1 => r X E1 (hold fun hs E2 => QA (h :: hs) E2)) := (rfl)
theorem av_tup : vTup r X E Q = r X E (hold fun hs E1 => hs.length ≤ sizeLine ∧ gv (takeL E1 hs) (hold fun t => Q (.v (.p (.tup t.1))) t.2)) := (rfl)
theorem av_lst : vLst r X E Q = r X E (hold fun hs E1 => hs.length ≤ sizeLine ∧ gv (takeL E1 hs) (hold fun t => Q (.v (.o (.lst t.1))) t.2)) := (rfl)
theorem av_noP : vNoP X E QO = QO none E := (rfl)
theorem av_part : vPart a X E QO = a X E (hold fun h E1 => gv (rd E1 h) (hold fun x => intP x (hold fun i => QO (some i) E1))) := (rfl)
theorem av_slc : vSlc a lo hi X E Q = a X E (hold fun h E1 => lo X E1 (hold fun l E2 => hi X E2 (hold fun u E3 => gv (rd E3 h) (hold fun x => oSlc x l u (hold fun v => Q (.v v) E3))))) := (rfl)
theorem av_bits : vBits a X E Q = a X E (hold fun h E1 => gv (rd E1 h) (hold fun x => intP x (hold fun i => Q (.v (.p (.int (Builtin.Int.intBits i : Nat)))) E1))) := (rfl)
theorem av_tst : vTst a X E QT = a X E (hold fun h E1 => gv (rd E1 h) (hold fun x => truP x (hold fun k => QT k E1))) := (rfl)
theorem av_tsB : vTsB a X E QT = a X E (hold fun h E1 => gv (rd E1 h) (hold fun x => blP x (hold fun k => QT k E1))) := (rfl)
theorem av_notB : vNotB t X E QT = t X E (hold fun b E1 => QT (!b) E1) := (rfl)
theorem av_andB : vAndB t u X E QT = t X E (hold fun b E1 => cnd b (u X E1 QT) (QT false E1)) := (rfl)
theorem av_orB : vOrB t u X E QT = t X E (hold fun b E1 => cnd b (QT true E1) (u X E1 QT)) := (rfl)
theorem av_yes : vYes X E QT = QT true E := (rfl)
theorem av_blt : vBlt gc r X E Q = r X E (hold fun hs E1 => gv (rds E1 hs) (hold fun xs => gc xs (hold fun v => Q (.v v) E1))) := (rfl)
theorem av_sset : vSSet a X E Q = a X E (hold fun h E1 => gv (rd E1 h) (hold fun x => sset x (hold fun v => Q (.v v) E1))) := (rfl)
theorem av_lstR : vLstR r X E Q = r X E (hold fun hs E1 => gv (rds E1 hs) (hold fun xs => rg2P xs (hold fun i j => RgOk i j ∧ Q (.v (.o (.lst (rgP i j)))) E1))) := (rfl)
theorem av_tupR : vTupR r X E Q = r X E (hold fun hs E1 => gv (rds E1 hs) (hold fun xs => rg2P xs (hold fun i j => RgOk i j ∧ Q (.v (.p (.tup (rgP i j)))) E1))) := (rfl)
theorem av_metR {tv : P → Prop} {gm : VM} : vMetR tv gm a r X E Q = a X E (hold fun h E1 => gv (rd E1 h) (hold fun x => tv x ∧ r X E1 (hold fun hs E2 => gv (rds E2 hs) (hold fun xs => gv (rd E2 h) (hold fun x => gm x xs (hold fun v => Q (.v v) E2)))))) := (rfl)
theorem av_mut {tv : P → Prop} {gm : VMu} : vMut tv gm i r X E Q = gv (lk E i) (hold fun v => tv v.val ∧ r X E (hold fun hs E1 => gv (takeL E1 hs) (hold fun t => gv (lk t.2 i) (hold fun v => v.own = true ∧ gm v.val t.1 (hold fun y x' => Q (.v (.p y)) (pt t.2 i (some (v.re x')))))))) := (rfl)
theorem av_get : vGet a r X E Q = a X E (hold fun h E1 => gv (rd E1 h) (hold fun x => gv (dctP x) (hold fun _ => r X E1 (hold fun hs E2 => gv (takeL E2 hs) (hold fun tk => gv (rd tk.2 h) (hold fun x => gv (dctP x) (hold fun d => getK d.1 d.2 tk.1 (hold fun y => Q (.v (.p y)) tk.2)))))))) := (rfl)
theorem av_srtK {dom : Int → Prop} {key : Int → Int} : vSrtK dom key a X E Q = a X E (hold fun h E1 => gv (rd E1 h) (hold fun x => ∃ ns : List Int, x = .lst (ns.map .int) ∧ (∀ n ∈ ns, dom n) ∧ Q (.v (.o (.lst ((ns.mergeSort fun x y => decide (key x ≤ key y)).map .int)))) E1)) := (rfl)
theorem av_lc : vLc vi pt' t a vs X E Q = vi X E (hold fun s E1 => pasAll E1 vs = true ∧ vlcGo pt' t a vs (hold fun acc E2 => Q (.v (.o (.lst acc))) (unE s.slot E1 (restV E1 E2 vs))) s.items [] (wipeV (lockE s.slot E1) vs)) := (rfl)
theorem av_call : vCall cv sp r X E Q = r X E (hold fun hs E1 => ioOk cv hs = true ∧ gv (takeL E1 (tks cv hs)) (hold fun t => gv (cvt t.2 cv hs t.1) (hold fun us => sp us (hold fun v ys => Q (.v v) (putIO t.2 (ioSl cv hs) ys))))) := (rfl)
theorem av_seqI : vSeqI a X E QI = a X E (hold fun h E1 => srcV h E1 (hold fun x s E2 => gv (itemsP x) (hold fun xs => QI ⟨xs, s⟩ E2))) := (rfl)
theorem av_enum : vEnum r X E QI = r X E (hold fun hs E1 => match hs with
  | [h] => srcV h E1 (hold fun x s E2 => gv (enumOk x) (hold fun xs => QI ⟨xs, s⟩ E2))
  | _ => False) := (rfl)
theorem av_rng : vRng r X E QI = r X E (hold fun hs E1 => gv (rds E1 hs) (hold fun xs => rngP xs (hold fun ys => QI ⟨ys, none⟩ E1))) := (rfl)
theorem av_asg : vAsg i a kv E = a kv.ex E (hold fun h E1 => asgTo i h E1 kv.nx) := (rfl)
theorem av_asgP : vAsgP pt' a kv E = a kv.ex E (hold fun h E1 => gv (rd E1 h) (hold fun x => isTupP x ∧ gv (bindVA pt' x E1) kv.nx)) := (rfl)
theorem av_set : vSet j a b kv E = b kv.ex E (hold fun hv E1 => gv (lk E1 j) (hold fun _ => a kv.ex E1 (hold fun hi E2 => gv (rd E2 hi) (hold fun z => gv (take1 E2 hv) (hold fun t => gv (lk t.2 j) (hold fun w => w.own = true ∧ setP w.val z t.1 (hold fun x' => kv.nx (pt t.2 j (some (w.re x')))))))))) := (rfl)
theorem av_drop : vDrop a kv E = a kv.ex E (hold fun _ E1 => kv.nx E1) := (rfl)
theorem av_ret : vRet a kv E = a kv.ex E (hold fun h E1 => retTo h E1 kv.rt) := (rfl)
theorem av_retN : vRetN kv E = kv.rt (.p .non) E := (rfl)
theorem av_brk : vBrk kv E = kv.bk E := (rfl)
theorem av_cnt : vCnt kv E = kv.ct E := (rfl)
theorem av_pas : vPas kv E = kv.nx E := (rfl)
theorem av_sq : vSq f g kv E = f (kvS g kv) E := (rfl)
theorem av_ifS : vIfS t f g kv E = t kv.ex E (hold fun c E1 => cnd c (f kv E1) (g kv E1)) := (rfl)
theorem av_for : vFor vi pt' f kv E = vi kv.ex E (hold fun s E1 => vForGo pt' f (unK s.slot E1 kv) s.items (lockE s.slot E1)) := (rfl)
theorem av_forN : vForN i pt' f kv E = gv (lk E i) (hold fun v => srcV (.slot i) E (hold fun x s E2 => gv (itemsP x) (hold fun xs => vForGo pt' f (unK s E2 kv) xs (lockE s E2)))) := (rfl)
theorem av_forD : vForD i pt' f kv E = gv (lk E i) (hold fun v => match v.val with
  | .dct t kvs => v.own = true ∧ t < 2 ∧ vForGo pt' f (kvD i v kv) (kvs.map (·.1)) (pt E i (some (.b (.dct (t + 10) kvs))))
  | _ => False) := (rfl)
theorem un_d {N : VEnv → Prop} : unD i v E N = (match lk E i with
  | some (.b _) => N (pt E i (some v))
  | _ => False) := (rfl)
theorem rd_slot : rd E (.slot i) = (lk E i).map V'.val := (rfl)
theorem rd_v : rd E (.v v) = some v.val := (rfl)
theorem rds_nil : rds E [] = some [] := (rfl)
theorem val_p : (V'.p x).val = x := (rfl)
theorem val_b : (V'.b x).val = x := (rfl)
theorem val_o : (V'.o x).val = x := (rfl)
theorem val_io : (V'.io x).val = x := (rfl)
theorem own_o : (V'.o x).own = true := (rfl)
theorem own_io : (V'.io x).own = true := (rfl)
theorem re_o : (V'.o x).re y = .o y := (rfl)
theorem re_io : (V'.io x).re y = .io y := (rfl)
theorem mp_some {α β : Type} {f : α → β} {a : α} : (some a).map f = some (f a) := (rfl)
theorem src_v {QS : P → Option Nat → VEnv → Prop} : srcV (.v v) E QS = gv (take1 E (.v v)) (hold fun t => QS t.1 none t.2) := (rfl)
theorem src_s {QS : P → Option Nat → VEnv → Prop} : srcV (.slot j) E QS = gv (lk E j) (hold fun v => match v with
    | .p x => QS x none E
    | .b x => QS x none E
    | .o x => QS x (some j) E
    | .io x => QS x (some j) E) := (rfl)
theorem un_none : unE none E0 E = E := (rfl)
theorem lock_none : lockE none E = E := (rfl)
theorem unK_none : unK none E0 kv = kv := (rfl)
theorem unK_some : unK (some j) E0 kv = kvU j E0 kv := (rfl)
theorem lock_some : lockE (some j) E = (match lk E j with
    | some v => pt E j (some (.b v.val))
    | none => E) := (rfl)
theorem un_some : unE (some j) E0 E = (match lk E j with
    | some (.b _) => pt E j (lk E0 j)
    | _ => E) := (rfl)
theorem asg_v : asgTo i (.v v) E kv.nx = kv.nx (pt E i (some v)) := (rfl)
theorem asg_s {N : VEnv → Prop} : asgTo i (.slot j) E N = gv (take1 E (.slot j)) (hold fun t => N (pt t.2 i (some (.p t.1)))) := (rfl)
theorem asg_v' {N : VEnv → Prop} : asgTo i (.v v) E N = N (pt E i (some v)) := (rfl)
theorem ret_v {N : V' → VEnv → Prop} : retTo (.v v) E N = N v E := (rfl)
theorem ret_s {N : V' → VEnv → Prop} : retTo (.slot j) E N = gv (lk E j) (hold fun v => match v with
    | .p x => N (.p x) E
    | .o x => N (.o x) (pt E j none)
    | _ => False) := (rfl)
theorem kv_nx {us : List V'} {N : V' → List P → Prop} : (kvOf us N).nx E = gv (outs E 0 us) (N (.p .non)) := (rfl)
theorem kv_rt {us : List V'} {N : V' → List P → Prop} : (kvOf us N).rt v E = gv (outs E 0 us) (N v) := (rfl)
theorem gv_some {α : Type} {x : α} {N : α → Prop} : gv (some x) N = N x := (rfl)
end
/-! naturals -/
abbrev np (n : Nat) : P := .int (n : Int)
section
variable {a b : Nat} {Q : V' → Prop} {QB : Bool → Prop} {QI : Int → Prop}
theorem o_add : oAdd (np a) (np b) Q = Q (.p (np (a + b))) := by
  show Q (.p (.int ((a : Int) + (b : Int)))) = _
  rw [← Int.natCast_add]
theorem o_sub (h : b ≤ a) : oSub (np a) (np b) Q = Q (.p (np (a - b))) := by
  show (True ∧ Q (.p (.int ((a : Int) - (b : Int))))) = _
  rw [← Int.ofNat_sub h, true_and]
theorem o_and : oAnd (np a) (np b) Q = Q (.p (np (a &&& b))) := by
  show (True ∧ Q (.p (.int (Builtin.bitAnd (a : Int) (b : Int))))) = _
  rw [PySem.W.os_band, true_and]
theorem or_cast (a b : Nat) : Builtin.bitOr (a : Int) (b : Int) = ((a ||| b : Nat) : Int) := by
  have := n_or (a := a) (b := b) (S := []) (Q := fun d _ => d = nt (a ||| b)) rfl
  injection this
theorem xor_cast (a b : Nat) : Builtin.bitXor (a : Int) (b : Int) = ((a ^^^ b : Nat) : Int) := by
  have := n_xor (a := a) (b := b) (S := []) (Q := fun d _ => d = nt (a ^^^ b)) rfl
  injection this
theorem o_or : oOr (np a) (np b) Q = Q (.p (np (a ||| b))) := by
  show (True ∧ Q (.p (.int (Builtin.bitOr (a : Int) (b : Int))))) = _
  rw [or_cast, true_and]
theorem o_xor : oXor (np a) (np b) Q = Q (.p (np (a ^^^ b))) := by
  show (True ∧ Q (.p (.int (Builtin.bitXor (a : Int) (b : Int))))) = _
  rw [xor_cast, true_and]
theorem o_shl (k : Nat) (h : a < 2 ^ k) (hb : k + b ≤ 134217728) : oShl (np a) (np b) Q = Q (.p (np (a * 2 ^ b))) := by
  have hc : CShl (a : Int) (b : Int) := by
    refine ⟨Int.natCast_nonneg b, ?_⟩
    have := bits_le h
    show (Builtin.Int.intBits (a : Int) : Int) + (b : Int) ≤ 2 ^ 27
    have e : (2 : Int) ^ 27 = 134217728 := by decide
    rw [e]
    omega
  show (CShl (a : Int) (b : Int) ∧ Q (.p (.int ((a : Int) * 2 ^ (b : Int).toNat)))) = _
  rw [eq_true hc, true_and, Int.toNat_natCast]
  have e : (a : Int) * 2 ^ b = ((a * 2 ^ b : Nat) : Int) := by
    rw [Int.natCast_mul, Int.natCast_pow]
    rfl
  rw [e]
theorem o_shl1 (hb : b ≤ 134217727) : oShl (np 1) (np b) Q = Q (.p (np (2 ^ b))) := by
  rw [o_shl 1 (by decide) (by omega), Nat.one_mul]
theorem o_shr : oShr (np a) (np b) Q = Q (.p (np (a >>> b))) := by
  show ((0 : Int) ≤ (b : Int) ∧ Q (.p (.int ((a : Int) / 2 ^ (b : Int).toNat)))) = _
  rw [eq_true (Int.natCast_nonneg b), true_and, Int.toNat_natCast]
  have e : (a : Int) / 2 ^ b = ((a >>> b : Nat) : Int) := by
    rw [Nat.shiftRight_eq_div_pow, Int.natCast_ediv, Int.natCast_pow]
    rfl
  rw [e]
theorem o_div (h0 : 0 < b) (h : b < 2 ^ 8999) : oDiv (np a) (np b) Q = Q (.p (np (a / b))) := by
  have hc : CDivW (a : Int) (b : Int) := by
    refine ⟨by omega, ?_⟩
    rw [Int.natAbs_natCast, Nat.log2_lt (by omega)]
    exact Nat.lt_of_lt_of_le h (Nat.pow_le_pow_right (by decide) (by decide))
  show (CDivW (a : Int) (b : Int) ∧ Q (.p (.int ((a : Int) / (b : Int))))) = _
  rw [eq_true hc, true_and, ← Int.natCast_ediv]
theorem big_pow : (2 : Nat) ^ 64 ≤ 2 ^ 8999 := Nat.pow_le_pow_right (by decide) (by decide)
theorem o_divS (h0 : 0 < b) (h : b < 2 ^ 64) : oDiv (np a) (np b) Q = Q (.p (np (a / b))) := o_div h0 (Nat.lt_of_lt_of_le h big_pow)
theorem o_mod (h0 : 0 < b) : oMod (np a) (np b) Q = Q (.p (np (a % b))) := by
  show ((0 : Int) < (b : Int) ∧ Q (.p (.int ((a : Int) % (b : Int))))) = _
  rw [eq_true (by omega : (0 : Int) < (b : Int)), true_and, ← Int.natCast_emod]
theorem o_mulS (h : b < 2 ^ 64) : oMul (np a) (np b) Q = Q (.p (np (a * b))) := by
  have hc : CMul (a : Int) (b : Int) ∨ CMulW (a : Int) (b : Int) := .inl (.inr ⟨by omega, by omega⟩)
  show ((CMul (a : Int) (b : Int) ∨ CMulW (a : Int) (b : Int)) ∧ Q (.p (.int ((a : Int) * (b : Int))))) = _
  rw [eq_true hc, true_and, ← Int.natCast_mul]
theorem o_lt : oCmp (fun i j => decide (i < j)) (np a) (np b) Q = Q (.p (.bl (decide (a < b)))) := by
  show (True ∧ Q (.p (.bl (decide ((a : Int) < (b : Int)))))) = _
  rw [true_and]
  congr 4
  rw [eq_iff_iff]
  omega
theorem o_le : oCmp (fun i j => decide (i ≤ j)) (np a) (np b) Q = Q (.p (.bl (decide (a ≤ b)))) := by
  show (True ∧ Q (.p (.bl (decide ((a : Int) ≤ (b : Int)))))) = _
  rw [true_and]
  congr 4
  rw [eq_iff_iff]
  omega
theorem o_gt : oCmp (fun i j => decide (j < i)) (np a) (np b) Q = Q (.p (.bl (decide (b < a)))) := by
  show (True ∧ Q (.p (.bl (decide ((b : Int) < (a : Int)))))) = _
  rw [true_and]
  congr 4
  rw [eq_iff_iff]
  omega
theorem o_ge : oCmp (fun i j => decide (j ≤ i)) (np a) (np b) Q = Q (.p (.bl (decide (b ≤ a)))) := by
  show (True ∧ Q (.p (.bl (decide ((b : Int) ≤ (a : Int)))))) = _
  rw [true_and]
  congr 4
  rw [eq_iff_iff]
  omega
theorem dec_int (a b : Nat) : decide ((a : Int) = (b : Int)) = decide (a = b) := by rw [decide_eq_decide]; omega
theorem o_eq : oEq false (np a) (np b) Q = Q (.p (.bl (decide (a = b)))) := by
  show Q (.p (.bl (decide ((a : Int) = (b : Int))))) = _
  rw [dec_int]
theorem o_ne : oEq true (np a) (np b) Q = Q (.p (.bl (!decide (a = b)))) := by
  show Q (.p (.bl (!decide ((a : Int) = (b : Int))))) = _
  rw [dec_int]
theorem o_is {x : P} : oIs false x .non Q = Q (.p (.bl (isNonP x))) := by cases x <;> rfl
theorem o_isnot {x : P} : oIs true x .non Q = Q (.p (.bl (!isNonP x))) := by cases x <;> rfl
theorem nn_int {i : Int} : isNonP (.int i) = false := (rfl)
theorem nn_non : isNonP .non = true := (rfl)
theorem nn_tup {xs : List P} : isNonP (.tup xs) = false := (rfl)
theorem nn_str {xs : Str} : isNonP (.str xs) = false := (rfl)
theorem t_bl {k : Bool} : truP (.bl k) QB = QB k := (rfl)
theorem t_np : truP (np a) QB = QB (!decide (a = 0)) := by
  show QB ((a : Int) != 0) = _
  congr 1
  by_cases h : a = 0
  · subst h; rfl
  · have : ((a : Int) == 0) = false := by
      apply beq_eq_false_iff_ne.mpr
      omega
    simp [bne, this, h]
theorem t_tup {xs : List P} : truP (.tup xs) QB = QB (!xs.isEmpty) := (rfl)
theorem t_lst {xs : List P} : truP (.lst xs) QB = QB (!xs.isEmpty) := (rfl)
theorem b_bl {k : Bool} : blP (.bl k) QB = QB k := (rfl)
theorem i_int {i : Int} : intP (.int i) QI = QI i := (rfl)
theorem i_np (h : a < 2 ^ 62) {QL : List P → Prop} : rngP [np a] QL = QL ((List.range a).map np) := by
  show ((-(2 ^ 62) ≤ (a : Int) ∧ (a : Int) < 2 ^ 62) ∧ QL ((List.range (a : Int).toNat).map fun k => .int ((0 : Int) + (k : Nat)))) = _
  rw [eq_true (⟨by omega, by omega⟩ : -(2 ^ 62) ≤ (a : Int) ∧ (a : Int) < 2 ^ 62), true_and, Int.toNat_natCast]
  congr 2
  funext k
  rw [Int.zero_add]
theorem i_np2 (h1 : a < 2 ^ 62) (h2 : b < 2 ^ 62) {QL : List P → Prop} : rngP [np a, np b] QL = QL ((List.range (b - a)).map fun k => np (a + k)) := by
  show ((-(2 ^ 62) ≤ (a : Int) ∧ (a : Int) < 2 ^ 62 ∧ -(2 ^ 62) ≤ (b : Int) ∧ (b : Int) < 2 ^ 62) ∧ QL ((List.range ((b : Int) - (a : Int)).toNat).map fun k => .int ((a : Int) + (k : Nat)))) = _
  rw [eq_true (⟨by omega, by omega, by omega, by omega⟩ : -(2 ^ 62) ≤ (a : Int) ∧ (a : Int) < 2 ^ 62 ∧ -(2 ^ 62) ≤ (b : Int) ∧ (b : Int) < 2 ^ 62), true_and]
  congr 2
  rw [show ((b : Int) - (a : Int)).toNat = b - a by omega]
theorem c_int1 {i : Int} : cInt [.int i] Q = Q (.p (.int i)) := (rfl)
theorem c_len1 {xs : List P} : cLen [.lst xs] Q = Q (.p (np xs.length)) := (rfl)
theorem c_len2 {xs : List P} : cLen [.tup xs] Q = Q (.p (np xs.length)) := (rfl)
theorem c_tup1 {xs : List P} : cTuple [.lst xs] Q = Q (.p (.tup xs)) := (rfl)
theorem c_tup2 {xs : List P} : cTuple [.tup xs] Q = Q (.p (.tup xs)) := (rfl)
theorem c_lst1 {xs : List P} : cList [.lst xs] Q = Q (.o (.lst xs)) := (rfl)
theorem c_lst2 {xs : List P} : cList [.tup xs] Q = Q (.o (.lst xs)) := (rfl)
theorem c_lst3 {xs : List P} : cList [.fro xs] Q = Q (.o (.lst xs)) := (rfl)
theorem c_str1 {z : Str} : cStr [.str z] Q = Q (.p (.str z)) := (rfl)
theorem sl_tup {xs : List P} {l h : Option Int} : oSlc (.tup xs) l h Q = Q (.p (.tup (cutP xs l h))) := (rfl)
theorem sl_lst {xs : List P} {l h : Option Int} : oSlc (.lst xs) l h Q = Q (.o (.lst (cutP xs l h))) := (rfl)
theorem sl_fro {xs : List P} {l h : Option Int} : oSlc (.fro xs) l h Q = Q (.o (.lst (cutP xs l h))) := (rfl)
theorem a_lst {xs ys : List P} : oAdd (.lst xs) (.lst ys) Q = (xs.length + ys.length ≤ sizeLine ∧ Q (.o (.lst (xs ++ ys)))) := (rfl)
theorem a_tup {xs ys : List P} : oAdd (.tup xs) (.tup ys) Q = (xs.length + ys.length ≤ sizeLine ∧ Q (.p (.tup (xs ++ ys)))) := (rfl)
theorem a_str {xs ys : Str} : oAdd (.str xs) (.str ys) Q = (xs.length + ys.length ≤ sizeLine ∧ Q (.p (.str (xs ++ ys)))) := (rfl)
theorem m_app' {xs : List P} {x : P} {QM : P → P → Prop} : mApp (.lst xs) [x] QM = (xs.length < sizeLine ∧ QM .non (.lst (xs ++ [x]))) := (rfl)
theorem d_0 {kvs : List (P × P)} : dctP (.dct 0 kvs) = some (0, kvs) := (rfl)
theorem d_1 {kvs : List (P × P)} : dctP (.dct 1 kvs) = some (1, kvs) := (rfl)
theorem g_1 {t : Nat} {kvs : List (P × P)} {y : P} {QP : P → Prop} : getK t kvs [y] QP = (KeyOk t y ∧ QP ((getP kvs y).getD .non)) := (rfl)
theorem g_2 {t : Nat} {kvs : List (P × P)} {y z : P} {QP : P → Prop} : getK t kvs [y, z] QP = (KeyOk t y ∧ QP ((getP kvs y).getD z)) := (rfl)
theorem st_dct {t : Nat} {kvs : List (P × P)} {y v : P} {QS : P → Prop} : setP (.dct t kvs) y v QS = (t < 2 ∧ KeyOk t y ∧ kvs.length < sizeLine ∧ QS (.dct t (putP kvs y v))) := by
  cases y <;> rfl
theorem ixv_dct {t : Nat} {kvs : List (P × P)} {y : P} {Q : V' → Prop} : oIdx (.dct t kvs) y Q = (KeyOk t y ∧ gv (getP kvs y) (hold fun x => Q (.p x))) := by
  cases y <;> rfl
theorem is_lst {xs : List P} : isLst (.lst xs) = True := (rfl)
theorem is_tupL {xs : List P} : isTupP (.lst xs) = True := (rfl)
theorem ba_tup {is : List Nat} {xs : List P} {E : VEnv} : bindVA (.tp is) (.tup xs) E = bindVL is xs E := (rfl)
theorem ba_lst {is : List Nat} {xs : List P} {E : VEnv} : bindVA (.tp is) (.lst xs) E = bindVL is xs E := (rfl)
theorem is_tup {xs : List P} : isTupP (.tup xs) = True := (rfl)
theorem it_tup {xs : List P} : itemsP (.tup xs) = some xs := (rfl)
theorem it_lst {xs : List P} : itemsP (.lst xs) = some xs := (rfl)
theorem ix_tup {xs : List P} : oIdx (.tup xs) (np a) Q = gv (xs[a]?) (hold fun x => Q (.p x)) := by
  show gv (atI xs (a : Int)) _ = _
  cases e : xs[a]? with
  | some x => rw [atI_nat e]; rfl
  | none =>
    have hl : xs.length ≤ a := List.getElem?_eq_none_iff.mp e
    have : atI xs (a : Int) = none := by
      unfold atI ixN
      have h1 : ¬ ((a : Int) < 0) := by omega
      first
        | (simp; omega)
        | (split <;> simp <;> omega)
    rw [this]; rfl
theorem ix_lst {xs : List P} : oIdx (.lst xs) (np a) Q = gv (xs[a]?) (hold fun x => Q (.p x)) := ix_tup (xs := xs)
theorem st_lst {xs : List P} {v : P} {QS : P → Prop} (h : a < xs.length) : setP (.lst xs) (np a) v QS = QS (.lst (xs.set a v)) := by
  show gv (ixN xs.length (a : Int)) _ = _
  have : ixN xs.length (a : Int) = some a := by
    unfold ixN
    first
      | (simp; omega)
      | (split <;> simp <;> omega)
  rw [this]
  rfl
end
theorem sz_le {n : Nat} (h : n ≤ 1000000) : n ≤ sizeLine := Nat.le_trans h (by decide)
theorem sz_lt {n : Nat} (h : n ≤ 1000000) : n < sizeLine := Nat.lt_of_le_of_lt h (by decide)

/-! loops -/
theorem forV {p : Pat} {b : VS} {kv : KV} {α : Type} {f : α → P} {xs : List α} {E : VEnv} (I : List α → VEnv → Prop) (h0 : I [] E)
    (hs : ∀ (i : Nat) d x r E (N : VEnv → Prop), xs = d ++ x :: r → d.length = i → I d E → (∀ E', I (d ++ [x]) E' → N E') → gv (bindVP p (f x) E) fun E' => b (kvL N kv) E')
    (he : ∀ E, I xs E → kv.nx E) : vForGo p b kv (xs.map f) E := by
  have key : ∀ (ys d : List α) E, d ++ ys = xs → I d E → vForGo p b kv (ys.map f) E := by
    intro ys
    induction ys with
    | nil =>
      intro d E e hI
      rw [List.append_nil] at e
      subst e
      exact he E hI
    | cons y ys ih =>
      intro d E e hI
      exact hs d.length d y ys E _ e.symm rfl hI fun E' hI' => ih (d ++ [y]) E' (by rw [List.append_assoc]; exact e) hI'
  exact key xs [] E rfl h0
theorem forVn {p : Pat} {b : VS} {kv : KV} {n : Nat} {f : Nat → P} {E : VEnv} (I : Nat → VEnv → Prop) (h0 : I 0 E)
    (hs : ∀ i E (N : VEnv → Prop), i < n → I i E → (∀ E', I (i + 1) E' → N E') → gv (bindVP p (f i) E) fun E' => b (kvL N kv) E')
    (he : ∀ E, I n E → kv.nx E) : vForGo p b kv ((List.range n).map f) E :=
  forV (fun d E => (∃ m, d = List.range m) ∧ I d.length E) ⟨⟨0, rfl⟩, h0⟩ (fun i d x r E N e hi ⟨⟨m, hm⟩, hI⟩ hN => by
    subst hm
    rw [List.length_range] at hi hI
    subst hi
    have hx : (List.range n)[m]? = some x := by rw [e, List.getElem?_append_right (by simp)]; simp
    obtain ⟨h1, h2⟩ := List.getElem?_eq_some_iff.mp hx
    rw [List.getElem_range] at h2
    rw [List.length_range] at h1
    subst h2
    exact hs m E N h1 hI fun E' h => hN E' ⟨⟨m + 1, by rw [List.range_succ]⟩, by simpa using h⟩) (fun E h => he E (by simpa using h.2))
theorem whlV {t : VT} {b : VS} {kv : KV} {E : VEnv} (I : Nat → VEnv → Prop) {n : Nat} (h0 : I n E)
    (hs : ∀ n E (N : VEnv → Prop), I n E → (∀ n' E', n' < n → I n' E' → N E') → t kv.ex E (hold fun c E1 => cnd c (b (kvL N kv) E1) (kv.nx E1))) : vWhl t b kv E := by
  have key : ∀ m n E, n < m → I n E → vIt t b kv m E := by
    intro m
    induction m with
    | zero => intro n E h; omega
    | succ m ih =>
      intro n E h hI
      exact hs n E (vIt t b kv m) hI fun n' E' h' hI' => ih n' E' (by omega) hI'
  exact ⟨n + 1, key (n + 1) n E (by omega) h0⟩
/-- a comprehension that leaves its env -/
theorem lcV {p : Pat} {t : VT} {e : VE} {vs : List Nat} {Q : List P → VEnv → Prop} {E : VEnv} {α : Type} {g : α → P} {l : List α} {c : α → Bool} {f : α → P} {bd : α → VEnv} (hb : ∀ a, bindVP p (g a) E = some (bd a)) (hw : ∀ a, wipeV (bd a) vs = E)
    (hl : l.length ≤ 1000000) (ht : ∀ a ∈ l, ∀ Q : Bool → VEnv → Prop, Q (c a) (bd a) → t noXV (bd a) Q) (he : ∀ a ∈ l, c a = true → ∀ Q : Hd → VEnv → Prop, (∀ h, take1 (bd a) h = some (f a, bd a) → Q h (bd a)) → e noXV (bd a) Q) (q : Q ((l.filter c).map f) E) :
    vlcGo p t e vs Q (l.map g) [] E := by
  have key : ∀ (r : List α) (acc : List P), (∀ a ∈ r, a ∈ l) → acc.length + r.length ≤ 1000000 → Q (acc ++ (r.filter c).map f) E → vlcGo p t e vs Q (r.map g) acc E := by
    intro r
    induction r with
    | nil => intro acc _ _ q; rw [List.filter_nil, List.map_nil, List.append_nil] at q; exact q
    | cons a r ih =>
      intro acc hm hn q
      have ha := hm a (List.mem_cons_self ..)
      rw [List.length_cons] at hn
      refine gv_iff.mpr ⟨_, hb a, ht a ha _ ?_⟩
      cases hc : c a with
      | true =>
        refine he a ha hc _ fun h e1 => gv_iff.mpr ⟨_, e1, sz_lt (by omega), ?_⟩
        rw [hw a]
        refine ih _ (fun b hb => hm b (List.mem_cons_of_mem _ hb)) (by rw [List.length_append, List.length_singleton]; omega) ?_
        rw [List.filter_cons_of_pos hc, List.map_cons] at q
        rw [List.append_assoc]
        exact q
      | false =>
        show vlcGo p t e vs Q (r.map g) acc (wipeV (bd a) vs)
        rw [hw a]
        refine ih _ (fun b hb => hm b (List.mem_cons_of_mem _ hb)) (by omega) ?_
        rw [List.filter_cons_of_neg (by rw [hc]; exact Bool.false_ne_true)] at q
        exact q
  exact key l [] (fun a h => h) (by simpa using hl) (by simpa using q)
/-- a comprehension whose env may change -/
theorem lcI' {p : Pat} {t : VT} {e : VE} {vs : List Nat} {Q : List P → VEnv → Prop} {E : VEnv} {α : Type} {g : α → P} {l : List α} (I : List α → List P → VEnv → Prop) (h0 : I [] [] E)
    (hs : ∀ d a r acc E (N : List P → VEnv → Prop), l = d ++ a :: r → I d acc E → (∀ acc' E', I (d ++ [a]) acc' E' → N acc' E') → gv (bindVP p (g a) E) fun E1 => t noXV E1 (hold fun b E2 => cnd b (e noXV E2 (hold fun h E3 => gv (take1 E3 h) (hold fun tk => acc.length < sizeLine ∧ N (acc ++ [tk.1]) (wipeV tk.2 vs)))) (N acc (wipeV E2 vs))))
    (he : ∀ acc E, I l acc E → Q acc E) : vlcGo p t e vs Q (l.map g) [] E := by
  have key : ∀ (r d : List α) acc E, d ++ r = l → I d acc E → vlcGo p t e vs Q (r.map g) acc E := by
    intro r
    induction r with
    | nil =>
      intro d acc E e hI
      rw [List.append_nil] at e
      subst e
      exact he acc E hI
    | cons y r ih =>
      intro d acc E e hI
      exact hs d y r acc E _ e.symm hI fun acc' E' hI' => ih (d ++ [y]) acc' E' (by rw [List.append_assoc]; exact e) hI'
  exact key l [] [] E rfl h0
/-- what follows, shown once -/
theorem sqV {f g : VS} {kv : KV} {E : VEnv} (I : VEnv → Prop) (h : ∀ N : VEnv → Prop, (∀ E, I E → N E) → f (kvS (fun _ => N) kv) E) (h2 : ∀ E, I E → g kv E) : vSq f g kv E := h _ h2
end WW


set_option Elab.async false
set_option linter.all false
set_option maxRecDepth 100000
set_option maxHeartbeats 4000000
set_option autoImplicit false
namespace WW
open PySem PySem.Spec PyProof.Rows L2
/- all_lot(width): slots width=0 -/
def c_all_lot : WS :=
  (wRet (wOp opSub (wOp opShl (wCst (.int 1)) (wOp opShl (wCst (.int 1)) (wVar 0))) (wCst (.int 1))))
def v_all_lot : VS :=
  (vRet (vOp oSub (vOp oShl (vCst (np 1)) (vOp oShl (vCst (np 1)) (vVar 0))) (vCst (np 1))))
theorem sim_all_lot : SimS (c_all_lot) (v_all_lot) := by
  unfold c_all_lot v_all_lot
  exact (sim_ret (sim_op sim_sub (sim_op sim_shl (sim_int 1) (sim_op sim_shl (sim_int 1) (sim_var 0))) (sim_int 1)))
def sp_all_lot : VSpec := wpOf 1 (v_all_lot)
theorem run_all_lot {u0 : V'} {Q : V' → List P → Prop} : sp_all_lot [u0] Q = v_all_lot (kvOf [u0] Q) [some u0] := rfl
theorem good_all_lot : Good 1 1 (c_all_lot) (up sp_all_lot) := good_up (sim_all_lot)

/- _law_begin(script): slots script=0 -/
def c_law_begin : WS :=
  (wRet (wLst (wCons (wCst (.int 0)) (wCons (wCst (.int 0)) (wCons (wCst (.int 0)) (wCons (wCst (.int 0)) (wCons (wBlt listC (wCons (wSlc (wVar 0) wNoP (wPart (wCst (.int 63)))) wNil)) wNil)))))))
def v_law_begin : VS :=
  (vRet (vLst (vCons (vCst (np 0)) (vCons (vCst (np 0)) (vCons (vCst (np 0)) (vCons (vCst (np 0)) (vCons (vBlt cList (vCons (vSlc (vVar 0) vNoP (vPart (vCst (np 63)))) vNil)) vNil)))))))
theorem sim_law_begin : SimS (c_law_begin) (v_law_begin) := by
  unfold c_law_begin v_law_begin
  exact (sim_ret (sim_lst (sim_cons (sim_int 0) (sim_cons (sim_int 0) (sim_cons (sim_int 0) (sim_cons (sim_int 0) (sim_cons (sim_blt sim_list (sim_cons (sim_slcE (sim_var 0) sim_noP (sim_part (sim_int 63))) sim_nil)) sim_nil)))))))
def sp_law_begin : VSpec := wpOf 1 (v_law_begin)
theorem run_law_begin {u0 : V'} {Q : V' → List P → Prop} : sp_law_begin [u0] Q = v_law_begin (kvOf [u0] Q) [some u0] := rfl
theorem good_law_begin : Good 1 1 (c_law_begin) (up sp_law_begin) := good_up (sim_law_begin)

/- _law_draw(d, many): slots d=0 many=1 cell=2 number=3 digit=4 mixed=5 -/
def c_law_draw : WS :=
  (wSq (wIfS (wTsB (wOp (cmpD .Lt) (wVar 1) (wCst (.int 2)))) (wRet (wCst (.int 0))) wPas)
  (wSq (wIfS (wAndB (wTsB (wOp (cmpD .Eq) (wOp idxD (wVar 0) (wCst (.int 1))) (wCst (.int 0)))) (wTsB (wOp (cmpD .Lt) (wOp idxD (wVar 0) (wCst (.int 2))) (wBlt lenC (wCons (wOp idxD (wVar 0) (wCst (.int 4))) wNil))))) (wSq (wAsg 2 (wOp idxD (wOp idxD (wVar 0) (wCst (.int 4))) (wOp idxD (wVar 0) (wCst (.int 2))))) (wSq (wSet (wVar 0) (wCst (.int 2)) (wOp opAdd (wOp idxD (wVar 0) (wCst (.int 2))) (wCst (.int 1)))) (wSq (wAsg 3 (wIf (wTsB (wOp (cmpD .GtE) (wVar 2) (wCst (.int 0)))) (wVar 2) (wNeg (wVar 2)))) (wIfS (wTsB (wOp (cmpD .GtE) (wVar 3) (wOp opPow (wCst (.int 10)) (wCst (.int 18))))) (wSet (wVar 0) (wCst (.int 1)) (wVar 3)) (wSet (wVar 0) (wCst (.int 0)) (wOp opMod (wBlt intC (wCons (wOp opAdd (wOp opAdd (wOp opMul (wOp idxD (wVar 0) (wCst (.int 0))) (wCst (.int 69621))) (wOp opMul (wVar 3) (wCst (.int 48271)))) (wCst (.int 12345))) wNil)) (wCst (.int 2147483647)))))))) wPas)
  (wSq (wIfS (wTsB (wOp (cmpD .Gt) (wOp idxD (wVar 0) (wCst (.int 1))) (wCst (.int 0)))) (wSq (wAsg 4 (wOp opMod (wBlt intC (wCons (wOp idxD (wVar 0) (wCst (.int 1))) wNil)) (wVar 1))) (wSq (wSet (wVar 0) (wCst (.int 1)) (wOp opDiv (wOp idxD (wVar 0) (wCst (.int 1))) (wVar 1))) (wRet (wVar 4)))) wPas)
  (wSq (wSet (wVar 0) (wCst (.int 3)) (wOp opAdd (wOp idxD (wVar 0) (wCst (.int 3))) (wCst (.int 1))))
  (wSq (wSet (wVar 0) (wCst (.int 0)) (wOp opMod (wBlt intC (wCons (wOp opAdd (wOp opAdd (wOp opMul (wOp idxD (wVar 0) (wCst (.int 0))) (wCst (.int 48271))) (wOp opMul (wOp idxD (wVar 0) (wCst (.int 3))) (wCst (.int 7919)))) (wCst (.int 11))) wNil)) (wCst (.int 2147483647))))
  (wSq (wAsg 5 (wOp opMod (wBlt intC (wCons (wOp opAdd (wOp opMul (wOp idxD (wVar 0) (wCst (.int 0))) (wOp idxD (wVar 0) (wCst (.int 0)))) (wOp idxD (wVar 0) (wCst (.int 3)))) wNil)) (wCst (.int 2147483629))))
  (wRet (wOp opMod (wBlt intC (wCons (wOp opDiv (wVar 5) (wCst (.int 7))) wNil)) (wVar 1)))))))))
def v_law_draw : VS :=
  (vSq (vIfS (vTsB (vOp oLt (vVar 1) (vCst (np 2)))) (vRet (vCst (np 0))) vPas)
  (vSq (vIfS (vAndB (vTsB (vOp (oEq false) (vOp oIdx (vVar 0) (vCst (np 1))) (vCst (np 0)))) (vTsB (vOp oLt (vOp oIdx (vVar 0) (vCst (np 2))) (vBlt cLen (vCons (vOp oIdx (vVar 0) (vCst (np 4))) vNil))))) (vSq (vAsg 2 (vOp oIdx (vOp oIdx (vVar 0) (vCst (np 4))) (vOp oIdx (vVar 0) (vCst (np 2))))) (vSq (vSet 0 (vCst (np 2)) (vOp oAdd (vOp oIdx (vVar 0) (vCst (np 2))) (vCst (np 1)))) (vSq (vAsg 3 (vIf (vTsB (vOp oGe (vVar 2) (vCst (np 0)))) (vVar 2) (vNeg (vVar 2)))) (vIfS (vTsB (vOp oGe (vVar 3) (vOp oPow (vCst (np 10)) (vCst (np 18))))) (vSet 0 (vCst (np 1)) (vVar 3)) (vSet 0 (vCst (np 0)) (vOp oMod (vBlt cInt (vCons (vOp oAdd (vOp oAdd (vOp oMul (vOp oIdx (vVar 0) (vCst (np 0))) (vCst (np 69621))) (vOp oMul (vVar 3) (vCst (np 48271)))) (vCst (np 12345))) vNil)) (vCst (np 2147483647)))))))) vPas)
  (vSq (vIfS (vTsB (vOp oGt (vOp oIdx (vVar 0) (vCst (np 1))) (vCst (np 0)))) (vSq (vAsg 4 (vOp oMod (vBlt cInt (vCons (vOp oIdx (vVar 0) (vCst (np 1))) vNil)) (vVar 1))) (vSq (vSet 0 (vCst (np 1)) (vOp oDiv (vOp oIdx (vVar 0) (vCst (np 1))) (vVar 1))) (vRet (vVar 4)))) vPas)
  (vSq (vSet 0 (vCst (np 3)) (vOp oAdd (vOp oIdx (vVar 0) (vCst (np 3))) (vCst (np 1))))
  (vSq (vSet 0 (vCst (np 0)) (vOp oMod (vBlt cInt (vCons (vOp oAdd (vOp oAdd (vOp oMul (vOp oIdx (vVar 0) (vCst (np 0))) (vCst (np 48271))) (vOp oMul (vOp oIdx (vVar 0) (vCst (np 3))) (vCst (np 7919)))) (vCst (np 11))) vNil)) (vCst (np 2147483647))))
  (vSq (vAsg 5 (vOp oMod (vBlt cInt (vCons (vOp oAdd (vOp oMul (vOp oIdx (vVar 0) (vCst (np 0))) (vOp oIdx (vVar 0) (vCst (np 0)))) (vOp oIdx (vVar 0) (vCst (np 3)))) vNil)) (vCst (np 2147483629))))
  (vRet (vOp oMod (vBlt cInt (vCons (vOp oDiv (vVar 5) (vCst (np 7))) vNil)) (vVar 1)))))))))
theorem sim_law_draw : SimS (c_law_draw) (v_law_draw) := by
  unfold c_law_draw v_law_draw
  exact (sim_sq (sim_ifS (sim_tsB (sim_op sim_lt (sim_var 1) (sim_int 2))) (sim_ret (sim_int 0)) sim_pas)
  (sim_sq (sim_ifS (sim_andB (sim_tsB (sim_op (sim_eq false) (sim_op sim_idx (sim_var 0) (sim_int 1)) (sim_int 0))) (sim_tsB (sim_op sim_lt (sim_op sim_idx (sim_var 0) (sim_int 2)) (sim_blt sim_len (sim_cons (sim_op sim_idx (sim_var 0) (sim_int 4)) sim_nil))))) (sim_sq (sim_asg (sim_op sim_idx (sim_op sim_idx (sim_var 0) (sim_int 4)) (sim_op sim_idx (sim_var 0) (sim_int 2)))) (sim_sq (sim_set (sim_int 2) (sim_op sim_add (sim_op sim_idx (sim_var 0) (sim_int 2)) (sim_int 1))) (sim_sq (sim_asg (sim_if (sim_tsB (sim_op sim_ge (sim_var 2) (sim_int 0))) (sim_var 2) (sim_neg (sim_var 2)))) (sim_ifS (sim_tsB (sim_op sim_ge (sim_var 3) (sim_op sim_pow (sim_int 10) (sim_int 18)))) (sim_set (sim_int 1) (sim_var 3)) (sim_set (sim_int 0) (sim_op sim_mod (sim_blt sim_intC (sim_cons (sim_op sim_add (sim_op sim_add (sim_op sim_mul (sim_op sim_idx (sim_var 0) (sim_int 0)) (sim_int 69621)) (sim_op sim_mul (sim_var 3) (sim_int 48271))) (sim_int 12345)) sim_nil)) (sim_int 2147483647))))))) sim_pas)
  (sim_sq (sim_ifS (sim_tsB (sim_op sim_gt (sim_op sim_idx (sim_var 0) (sim_int 1)) (sim_int 0))) (sim_sq (sim_asg (sim_op sim_mod (sim_blt sim_intC (sim_cons (sim_op sim_idx (sim_var 0) (sim_int 1)) sim_nil)) (sim_var 1))) (sim_sq (sim_set (sim_int 1) (sim_op sim_div (sim_op sim_idx (sim_var 0) (sim_int 1)) (sim_var 1))) (sim_ret (sim_var 4)))) sim_pas)
  (sim_sq (sim_set (sim_int 3) (sim_op sim_add (sim_op sim_idx (sim_var 0) (sim_int 3)) (sim_int 1)))
  (sim_sq (sim_set (sim_int 0) (sim_op sim_mod (sim_blt sim_intC (sim_cons (sim_op sim_add (sim_op sim_add (sim_op sim_mul (sim_op sim_idx (sim_var 0) (sim_int 0)) (sim_int 48271)) (sim_op sim_mul (sim_op sim_idx (sim_var 0) (sim_int 3)) (sim_int 7919))) (sim_int 11)) sim_nil)) (sim_int 2147483647)))
  (sim_sq (sim_asg (sim_op sim_mod (sim_blt sim_intC (sim_cons (sim_op sim_add (sim_op sim_mul (sim_op sim_idx (sim_var 0) (sim_int 0)) (sim_op sim_idx (sim_var 0) (sim_int 0))) (sim_op sim_idx (sim_var 0) (sim_int 3))) sim_nil)) (sim_int 2147483629)))
  (sim_ret (sim_op sim_mod (sim_blt sim_intC (sim_cons (sim_op sim_div (sim_var 5) (sim_int 7)) sim_nil)) (sim_var 1)))))))))
def sp_law_draw : VSpec := wpOf 6 (v_law_draw)
theorem run_law_draw {u0 u1 : V'} {Q : V' → List P → Prop} : sp_law_draw [u0, u1] Q = v_law_draw (kvOf [u0, u1] Q) [some u0, some u1, none, none, none, none] := rfl
theorem good_law_draw : Good 6 2 (c_law_draw) (up sp_law_draw) := good_up (sim_law_draw)

/- _law_rare(d, many): slots d=0 many=1 -/
def c_law_rare (p_law_draw : Spec) : WS :=
  (wRet (wOp (cmpD .Eq) (wCall 2 p_law_draw (wCons (wVar 0) (wCons (wVar 1) wNil))) (wOp opDiv (wVar 1) (wCst (.int 2)))))
def v_law_rare (q_law_draw : VSpec) : VS :=
  (vRet (vOp (oEq false) (vCall [.io, .a] q_law_draw (vCons (vVar 0) (vCons (vVar 1) vNil))) (vOp oDiv (vVar 1) (vCst (np 2)))))
theorem sim_law_rare (q_law_draw : VSpec) : SimS (c_law_rare (up q_law_draw)) (v_law_rare q_law_draw) := by
  unfold c_law_rare v_law_rare
  exact (sim_ret (sim_op (sim_eq false) (sim_call (cv := [.io, .a]) rfl (sim_cons (sim_var 0) (sim_cons (sim_var 1) sim_nil))) (sim_op sim_div (sim_var 1) (sim_int 2))))
def sp_law_rare : VSpec := wpOf 2 (v_law_rare sp_law_draw)
theorem run_law_rare {u0 u1 : V'} {Q : V' → List P → Prop} : sp_law_rare [u0, u1] Q = v_law_rare sp_law_draw (kvOf [u0, u1] Q) [some u0, some u1] := rfl
theorem good_law_rare : Good 2 2 (c_law_rare (up sp_law_draw)) (up sp_law_rare) := good_up (sim_law_rare sp_law_draw)

/- _law_lot(headers): slots headers=0 lot=1 header=2 -/
def c_law_lot_1 : WS :=
  (wAsg 1 (wOp opOr (wVar 1) (wOp opShl (wCst (.int 1)) (wVar 2))))
def v_law_lot_1 : VS :=
  (vAsg 1 (vOp oOr (vVar 1) (vOp oShl (vCst (np 1)) (vVar 2))))
theorem sim_law_lot_1 : SimS (c_law_lot_1) (v_law_lot_1) := by
  unfold c_law_lot_1 v_law_lot_1
  exact (sim_asg (sim_op sim_or (sim_var 1) (sim_op sim_shl (sim_int 1) (sim_var 2))))
def c_law_lot : WS :=
  (wSq (wAsg 1 (wCst (.int 0)))
  (wSq (wForN 0 (.nm 2) c_law_lot_1)
  (wRet (wVar 1))))
def v_law_lot : VS :=
  (vSq (vAsg 1 (vCst (np 0)))
  (vSq (vForN 0 (.nm 2) v_law_lot_1)
  (vRet (vVar 1))))
theorem sim_law_lot : SimS (c_law_lot) (v_law_lot) := by
  unfold c_law_lot v_law_lot
  exact (sim_sq (sim_asg (sim_int 0))
  (sim_sq (sim_forN sim_law_lot_1)
  (sim_ret (sim_var 1))))
def sp_law_lot : VSpec := wpOf 3 (v_law_lot)
theorem run_law_lot {u0 : V'} {Q : V' → List P → Prop} : sp_law_lot [u0] Q = v_law_lot (kvOf [u0] Q) [some u0, none, none] := rfl
theorem good_law_lot : Good 3 1 (c_law_lot) (up sp_law_lot) := good_up (sim_law_lot)

/- _law_cube(d, bits): slots d=0 bits=1 care=2 -/
def c_law_cube (p_law_draw : Spec) : WS :=
  (wSq (wAsg 2 (wCall 2 p_law_draw (wCons (wVar 0) (wCons (wOp opShl (wCst (.int 1)) (wVar 1)) wNil))))
  (wRet (wTup (wCons (wVar 2) (wCons (wOp opAnd (wCall 2 p_law_draw (wCons (wVar 0) (wCons (wOp opShl (wCst (.int 1)) (wVar 1)) wNil))) (wVar 2)) wNil)))))
def v_law_cube (q_law_draw : VSpec) : VS :=
  (vSq (vAsg 2 (vCall [.io, .a] q_law_draw (vCons (vVar 0) (vCons (vOp oShl (vCst (np 1)) (vVar 1)) vNil))))
  (vRet (vTup (vCons (vVar 2) (vCons (vOp oAnd (vCall [.io, .a] q_law_draw (vCons (vVar 0) (vCons (vOp oShl (vCst (np 1)) (vVar 1)) vNil))) (vVar 2)) vNil)))))
theorem sim_law_cube (q_law_draw : VSpec) : SimS (c_law_cube (up q_law_draw)) (v_law_cube q_law_draw) := by
  unfold c_law_cube v_law_cube
  exact (sim_sq (sim_asg (sim_call (cv := [.io, .a]) rfl (sim_cons (sim_var 0) (sim_cons (sim_op sim_shl (sim_int 1) (sim_var 1)) sim_nil))))
  (sim_ret (sim_tup (sim_cons (sim_var 2) (sim_cons (sim_op sim_and (sim_call (cv := [.io, .a]) rfl (sim_cons (sim_var 0) (sim_cons (sim_op sim_shl (sim_int 1) (sim_var 1)) sim_nil))) (sim_var 2)) sim_nil)))))
def sp_law_cube : VSpec := wpOf 3 (v_law_cube sp_law_draw)
theorem run_law_cube {u0 u1 : V'} {Q : V' → List P → Prop} : sp_law_cube [u0, u1] Q = v_law_cube sp_law_draw (kvOf [u0, u1] Q) [some u0, some u1, none] := rfl
theorem good_law_cube : Good 3 2 (c_law_cube (up sp_law_draw)) (up sp_law_cube) := good_up (sim_law_cube sp_law_draw)


/- _law_pick(d, row): slots d=0 row=1 -/
def c_law_pick (p_law_draw : Spec) : WS :=
  (wRet (wOp idxD (wVar 1) (wCall 2 p_law_draw (wCons (wVar 0) (wCons (wBlt lenC (wCons (wVar 1) wNil)) wNil)))))
def v_law_pick (q_law_draw : VSpec) : VS :=
  (vRet (vOp oIdx (vVar 1) (vCall [.io, .a] q_law_draw (vCons (vVar 0) (vCons (vBlt cLen (vCons (vVar 1) vNil)) vNil)))))
theorem sim_law_pick (q_law_draw : VSpec) : SimS (c_law_pick (up q_law_draw)) (v_law_pick q_law_draw) := by
  unfold c_law_pick v_law_pick
  exact (sim_ret (sim_op sim_idx (sim_var 1) (sim_call (cv := [.io, .a]) rfl (sim_cons (sim_var 0) (sim_cons (sim_blt sim_len (sim_cons (sim_var 1) sim_nil)) sim_nil)))))
def sp_law_pick : VSpec := wpOf 2 (v_law_pick sp_law_draw)
theorem run_law_pick {u0 u1 : V'} {Q : V' → List P → Prop} : sp_law_pick [u0, u1] Q = v_law_pick sp_law_draw (kvOf [u0, u1] Q) [some u0, some u1] := rfl
theorem good_law_pick : Good 2 2 (c_law_pick (up sp_law_draw)) (up sp_law_pick) := good_up (sim_law_pick sp_law_draw)


end WW


set_option Elab.async false
set_option linter.all false
set_option maxRecDepth 100000
set_option maxHeartbeats 4000000
set_option autoImplicit false
namespace WW
open PySem PySem.Spec PyProof.Rows L2

/-! ### equality of clean values: nothing, ints, texts, tuples and lists of such -/
mutual
def cln : Nat → P → Bool
  | _, .non => true
  | _, .int _ => true
  | _, .str s => PyData.canLay0 (.str s)
  | k + 1, .tup xs => clns k xs
  | k + 1, .lst xs => clns k xs
  | _, _ => false
def clns : Nat → List P → Bool
  | _, [] => true
  | k, x :: r => cln k x && clns k r
end
mutual
theorem cln_py : ∀ (x : P) (k : Nat), cln k x = true → ∃ p, toPy x = some p ∧ p.canLay0 = true ∧ p.depth ≤ k
  | .non, _, _ => ⟨_, rfl, rfl, Nat.zero_le _⟩
  | .int _, _, _ => ⟨_, rfl, rfl, Nat.zero_le _⟩
  | .str s, _, h => ⟨_, rfl, by unfold cln at h; exact h, Nat.zero_le _⟩
  | .bl _, k, h => by cases k <;> cases h
  | .fro _, k, h => by cases k <;> cases h
  | .dct _ _, k, h => by cases k <;> cases h
  | .obj _ _, k, h => by cases k <;> cases h
  | .tup xs, 0, h => by cases h
  | .lst xs, 0, h => by cases h
  | .tup xs, k + 1, h => by
    obtain ⟨ps, h1, h2, h3⟩ := clns_py xs k (by unfold cln at h; exact h)
    exact ⟨.tuple ps, by unfold toPy; rw [h1]; rfl, by unfold PyData.canLay0; exact h2, by unfold PyData.depth; omega⟩
  | .lst xs, k + 1, h => by
    obtain ⟨ps, h1, h2, h3⟩ := clns_py xs k (by unfold cln at h; exact h)
    exact ⟨.list ps, by unfold toPy; rw [h1]; rfl, by unfold PyData.canLay0; exact h2, by unfold PyData.depth; omega⟩
theorem clns_py : ∀ (xs : List P) (k : Nat), clns k xs = true → ∃ ps, toPys xs = some ps ∧ PyData.canLayAll0 ps = true ∧ PyData.depthAll ps ≤ k
  | [], _, _ => ⟨[], rfl, rfl, Nat.zero_le _⟩
  | x :: r, k, h => by
    unfold clns at h
    obtain ⟨h1, h2⟩ := Bool.and_eq_true_iff.mp h
    obtain ⟨p, a1, a2, a3⟩ := cln_py x k h1
    obtain ⟨ps, b1, b2, b3⟩ := clns_py r k h2
    exact ⟨p :: ps, by unfold toPys; rw [a1, b1], by unfold PyData.canLayAll0; rw [a2, b2]; rfl, by unfold PyData.depthAll; omega⟩
end
mutual
theorem cln_eqv : ∀ (x y : P) (k m : Nat) (p q : PyData), cln k x = true → cln m y = true → toPy x = some p → toPy y = some q → (PyData.eqv p q = true ↔ x = y)
  | .bl _, _, k, _, _, _, h, _, _, _ => by cases k <;> cases h
  | .fro _, _, k, _, _, _, h, _, _, _ => by cases k <;> cases h
  | .dct _ _, _, k, _, _, _, h, _, _, _ => by cases k <;> cases h
  | .obj _ _, _, k, _, _, _, h, _, _, _ => by cases k <;> cases h
  | .tup _, _, 0, _, _, _, h, _, _, _ => by cases h
  | .lst _, _, 0, _, _, _, h, _, _, _ => by cases h
  | .non, y, _, m, _, _, _, h, e1, e2 => by
    cases e1
    cases y with
    | non => cases e2; simp [PyData.eqv]
    | int _ => cases e2; simp [PyData.eqv]
    | str _ => cases e2; simp [PyData.eqv]
    | bl _ => cases m <;> cases h
    | fro _ => cases m <;> cases h
    | dct _ _ => cases m <;> cases h
    | obj _ _ => cases m <;> cases h
    | tup ys => unfold toPy at e2; cases q : toPys ys <;> (rw [q] at e2; cases e2); simp [PyData.eqv]
    | lst ys => unfold toPy at e2; cases q : toPys ys <;> (rw [q] at e2; cases e2); simp [PyData.eqv]
  | .int i, y, _, m, _, _, _, h, e1, e2 => by
    cases e1
    cases y with
    | non => cases e2; simp [PyData.eqv]
    | int _ => cases e2; simp [PyData.eqv]
    | str _ => cases e2; simp [PyData.eqv]
    | bl _ => cases m <;> cases h
    | fro _ => cases m <;> cases h
    | dct _ _ => cases m <;> cases h
    | obj _ _ => cases m <;> cases h
    | tup ys => unfold toPy at e2; cases q : toPys ys <;> (rw [q] at e2; cases e2); simp [PyData.eqv]
    | lst ys => unfold toPy at e2; cases q : toPys ys <;> (rw [q] at e2; cases e2); simp [PyData.eqv]
  | .str i, y, _, m, _, _, _, h, e1, e2 => by
    cases e1
    cases y with
    | non => cases e2; simp [PyData.eqv]
    | int _ => cases e2; simp [PyData.eqv]
    | str _ => cases e2; simp [PyData.eqv]
    | bl _ => cases m <;> cases h
    | fro _ => cases m <;> cases h
    | dct _ _ => cases m <;> cases h
    | obj _ _ => cases m <;> cases h
    | tup ys => unfold toPy at e2; cases q : toPys ys <;> (rw [q] at e2; cases e2); simp [PyData.eqv]
    | lst ys => unfold toPy at e2; cases q : toPys ys <;> (rw [q] at e2; cases e2); simp [PyData.eqv]
  | .tup xs, y, k + 1, m, _, _, h1, h, e1, e2 => by
    unfold toPy at e1
    cases q1 : toPys xs with
    | none => rw [q1] at e1; cases e1
    | some ps =>
    rw [q1] at e1
    cases e1
    cases y with
    | non => cases e2; simp [PyData.eqv]
    | int _ => cases e2; simp [PyData.eqv]
    | str _ => cases e2; simp [PyData.eqv]
    | bl _ => cases m <;> cases h
    | fro _ => cases m <;> cases h
    | dct _ _ => cases m <;> cases h
    | obj _ _ => cases m <;> cases h
    | lst ys => unfold toPy at e2; cases q : toPys ys <;> (rw [q] at e2; cases e2); simp [PyData.eqv]
    | tup ys =>
      cases m with
      | zero => cases h
      | succ m =>
        unfold toPy at e2
        cases q : toPys ys with
        | none => rw [q] at e2; cases e2
        | some qs =>
          rw [q] at e2
          cases e2
          have := clns_eqv xs ys k m ps qs (by unfold cln at h1; exact h1) (by unfold cln at h; exact h) q1 q
          simp only [PyData.eqv, P.tup.injEq]
          exact this
  | .lst xs, y, k + 1, m, _, _, h1, h, e1, e2 => by
    unfold toPy at e1
    cases q1 : toPys xs with
    | none => rw [q1] at e1; cases e1
    | some ps =>
    rw [q1] at e1
    cases e1
    cases y with
    | non => cases e2; simp [PyData.eqv]
    | int _ => cases e2; simp [PyData.eqv]
    | str _ => cases e2; simp [PyData.eqv]
    | bl _ => cases m <;> cases h
    | fro _ => cases m <;> cases h
    | dct _ _ => cases m <;> cases h
    | obj _ _ => cases m <;> cases h
    | tup ys => unfold toPy at e2; cases q : toPys ys <;> (rw [q] at e2; cases e2); simp [PyData.eqv]
    | lst ys =>
      cases m with
      | zero => cases h
      | succ m =>
        unfold toPy at e2
        cases q : toPys ys with
        | none => rw [q] at e2; cases e2
        | some qs =>
          rw [q] at e2
          cases e2
          have := clns_eqv xs ys k m ps qs (by unfold cln at h1; exact h1) (by unfold cln at h; exact h) q1 q
          simp only [PyData.eqv, P.lst.injEq]
          exact this
theorem clns_eqv : ∀ (xs ys : List P) (k m : Nat) (ps qs : List PyData), clns k xs = true → clns m ys = true → toPys xs = some ps → toPys ys = some qs → (PyData.eqvAll ps qs = true ↔ xs = ys)
  | [], [], _, _, _, _, _, _, e1, e2 => by cases e1; cases e2; simp [PyData.eqvAll]
  | [], y :: ys, _, _, _, _, _, _, e1, e2 => by
    cases e1
    unfold toPys at e2
    split at e2
    · cases e2; simp [PyData.eqvAll]
    · cases e2
  | x :: xs, [], _, _, _, _, _, _, e1, e2 => by
    cases e2
    unfold toPys at e1
    split at e1
    · cases e1; simp [PyData.eqvAll]
    · cases e1
  | x :: xs, y :: ys, k, m, _, _, h1, h2, e1, e2 => by
    unfold clns at h1 h2
    obtain ⟨a1, a2⟩ := Bool.and_eq_true_iff.mp h1
    obtain ⟨b1, b2⟩ := Bool.and_eq_true_iff.mp h2
    unfold toPys at e1 e2
    split at e1
    · rename_i p ps ep eps
      cases e1
      split at e2
      · rename_i q qs eq eqs
        cases e2
        simp only [PyData.eqvAll, Bool.and_eq_true, List.cons.injEq]
        rw [cln_eqv x y k m p q a1 b1 ep eq, clns_eqv xs ys k m ps qs a2 b2 eps eqs]
      · cases e2
    · cases e1
end
theorem cln_shaped {x : P} (h : cln 64 x = true) : ∃ p, toPy x = some p ∧ SeqAt.shaped p = true := by
  obtain ⟨p, h1, h2, h3⟩ := cln_py x 64 h
  refine ⟨p, h1, ?_⟩
  unfold SeqAt.shaped
  rw [h2, decide_eq_true h3]
  rfl
theorem o_eqC {x y : P} {neg : Bool} {Q : V' → Prop} (hx : cln 64 x = true) (hy : cln 64 y = true) : oEq neg x y Q = Q (.p (.bl (sg neg (decide (x = y))))) := by
  obtain ⟨p, a1, a2⟩ := cln_shaped hx
  obtain ⟨q, b1, b2⟩ := cln_shaped hy
  have he := cln_eqv x y 64 64 p q hx hy a1 b1
  have hd : PyData.eqv p q = decide (x = y) := by rw [Bool.eq_iff_iff, he, decide_eq_true_eq]
  unfold oEq
  cases e : scalP x y with
  | some b =>
    have : b = decide (x = y) := by
      rw [Bool.eq_iff_iff, decide_eq_true_eq]
      cases x <;> cases y <;> first | (cases e; done) | (cases e; simp)
    rw [this]
  | none =>
    apply propext
    constructor
    · rintro ⟨p', q', h1, h2, _, _, h⟩
      rw [a1] at h1
      rw [b1] at h2
      cases h1
      cases h2
      rw [← hd]
      exact h
    · intro h
      exact ⟨p, q, a1, b1, a2, b2, by rw [hd]; exact h⟩
theorem clns_map {α : Type} {f : α → P} {k : Nat} (h : ∀ x, cln k (f x) = true) : ∀ l : List α, clns k (l.map f) = true
  | [] => by rw [List.map_nil]; unfold clns; rfl
  | x :: r => by
    rw [List.map_cons]
    unfold clns
    rw [h x, clns_map h r]
    rfl
theorem cln_np (k n : Nat) : cln k (np n) = true := by cases k <;> (unfold cln; rfl)
theorem np_inj {a b : Nat} : np a = np b ↔ a = b := by
  constructor
  · intro h; injection h with h; omega
  · rintro rfl; rfl
theorem nps_inj {xs ys : List Nat} : xs.map np = ys.map np ↔ xs = ys := by
  induction xs generalizing ys with
  | nil => cases ys <;> simp
  | cons x xs ih => cases ys with
    | nil => simp
    | cons y ys => rw [List.map_cons, List.map_cons, List.cons.injEq, List.cons.injEq, ih, np_inj]
theorem sg_f {b : Bool} : sg false b = b := rfl
theorem sg_t {b : Bool} : sg true b = !b := rfl
theorem dec_iff {p q : Prop} {i : Decidable p} {j : Decidable q} (h : p ↔ q) : decide p = decide q := by
  rw [decide_eq_decide]
  exact h
theorem o_eqT {xs ys : List Nat} {neg : Bool} {Q : V' → Prop} : oEq neg (.tup (xs.map np)) (.tup (ys.map np)) Q = Q (.p (.bl (sg neg (decide (xs = ys))))) := by
  rw [o_eqC (by unfold cln; exact clns_map (cln_np _) _) (by unfold cln; exact clns_map (cln_np _) _), dec_iff (q := xs = ys) (by rw [P.tup.injEq, nps_inj])]
theorem o_eqL {xs ys : List Nat} {neg : Bool} {Q : V' → Prop} : oEq neg (.lst (xs.map np)) (.lst (ys.map np)) Q = Q (.p (.bl (sg neg (decide (xs = ys))))) := by
  rw [o_eqC (by unfold cln; exact clns_map (cln_np _) _) (by unfold cln; exact clns_map (cln_np _) _), dec_iff (q := xs = ys) (by rw [P.lst.injEq, nps_inj])]
end WW


set_option Elab.async false
set_option linter.all false
set_option maxRecDepth 100000
set_option maxHeartbeats 4000000
set_option autoImplicit false
namespace WW
open PySem PySem.Spec PyProof.Rows L2

/-! ### own classes over values: fields, methods, making -/
def objP (cs : List Str) : P → Option (Str × List (Str × P))
  | .obj c fs => if c ∈ cs then some (c, fs) else none
  | _ => none
theorem objP_iff {cs : List Str} {x : P} {c : Str} {fs : List (Str × P)} (h : objP cs x = some (c, fs)) : x = .obj c fs ∧ c ∈ cs := by
  cases x with
  | obj c' fs' =>
    have h : (if c' ∈ cs then some (c', fs') else none) = some (c, fs) := h
    by_cases hc : c' ∈ cs
    · rw [if_pos hc] at h; cases h; exact ⟨rfl, hc⟩
    · rw [if_neg hc] at h; cases h
  | _ => cases h
def fldP (cs : List Str) (f : Str) (x : P) (Q : P → Prop) : Prop := gv (objP cs x) fun o => gv (o.2.lookup f) Q
def vFld (cs : List Str) (f : Str) (a : VE) : VE := fun X E Q => a X E fun h E1 => gv (rd E1 h) fun x => fldP cs f x fun y => Q (.v (.p y)) E1
def fsetP (cs : List Str) (f : Str) (y : P) (w : V') (Q : V' → Prop) : Prop := w.own = true ∧ gv (objP cs w.val) fun o => o.2.length < 900 ∧ Q (w.re (.obj o.1 (putFA f y o.2)))
def vFSet (cs : List Str) (j : Nat) (f : Str) (v : VE) : VS := fun kv E => v kv.ex E fun hv E1 => gv (lk E1 j) fun _ => gv (take1 E1 hv) fun t => gv (lk t.2 j) fun w => fsetP cs f t.1 w fun w' => kv.nx (pt t.2 j (some w'))
def mthP (c m : Str) : P → Prop
  | .obj c' fs => c' = c ∧ fs.lookup m = none
  | _ => False
def callV (cv : List Cv) (sp : VSpec) (hs : List Hd) (E : VEnv) (Q : Hd → VEnv → Prop) : Prop := ioOk cv hs = true ∧ gv (takeL E (tks cv hs)) fun t => gv (cvt t.2 cv hs t.1) fun us => sp us fun v ys => Q (.v v) (putIO t.2 (ioSl cv hs) ys)
def vMth (c m : Str) (cv : List Cv) (sp : VSpec) (o : VE) (a : VA) : VE := fun X E Q => o X E fun h E1 => gv (rd E1 h) fun x => mthP c m x ∧ a X E1 fun hs E2 => callV cv sp (h :: hs) E2 Q
def makV (sp : VSpec) (c : Str) (us : List V') (Q : P → List P → Prop) : Prop := sp (.io (.obj c []) :: us) fun v ys => v = .p .non ∧ match ys with
  | y :: r => Q y r
  | [] => False
def vMak (c : Str) (cv : List Cv) (sp : VSpec) (a : VA) : VE := fun X E Q => a X E fun hs E1 => ioOk cv hs = true ∧ gv (takeL E1 (tks cv hs)) fun t => gv (cvt t.2 cv hs t.1) fun us => makV sp c us fun y r => Q (.v (.o y)) (putIO t.2 (ioSl cv hs) r)
def vAlt (a b : VE) : VE := fun X E Q => a X E Q ∨ b X E Q
section
variable {wd wd0 wd1 wd2 wd' : Wd} {E E0 E1 E2 E' : VEnv} {ρ ρ0 ρ1 ρ2 ρ' : Rho} {S S0 S1 S2 S' : Sto} {L : Nat}
theorem sim_alt {a b : W} {va vb : VE} (ha : SimE a va) (hb : SimE b vb) : SimE (wOr a b) (vAlt va vb) := fun X E Qv q wd ρ S xq Qd I k x =>
  q.elim (fun q => .inl (ha X E Qv q wd ρ S xq Qd I k x)) (fun q => .inr (hb X E Qv q wd ρ S xq Qd I k x))
theorem RepF.look {f : Str} {y : P} : ∀ {fs : List (Str × P)} {dfs : List (Str × D)}, RepF wd S fs dfs → fs.lookup f = some y → ∃ d, dfs.lookup f = some d ∧ RepP wd S y d
  | [], _, _, e => by cases e
  | (g, x) :: r, _, h, e => by
    obtain ⟨d, s, rfl, h1, h2, h3⟩ := h
    show ∃ d', (match f == g with | true => some d | false => s.lookup f) = some d' ∧ RepP wd S y d'
    have e : (match f == g with | true => some x | false => r.lookup f) = some y := e
    cases q : f == g with
    | true => rw [q] at e; cases e; exact ⟨d, rfl, h1, h2⟩
    | false => rw [q] at e; exact RepF.look h3 e
theorem RepF.look_none {f : Str} : ∀ {fs : List (Str × P)} {dfs : List (Str × D)}, RepF wd S fs dfs → fs.lookup f = none → dfs.lookup f = none
  | [], _, h, _ => by cases h; rfl
  | (g, x) :: r, _, h, e => by
    obtain ⟨d, s, rfl, h1, h2, h3⟩ := h
    show (match f == g with | true => some d | false => s.lookup f) = none
    have e : (match f == g with | true => some x | false => r.lookup f) = none := e
    cases q : f == g with
    | true => rw [q] at e; cases e
    | false => rw [q] at e; exact RepF.look_none h3 e
theorem RepF.length : ∀ {fs : List (Str × P)} {dfs : List (Str × D)}, RepF wd S fs dfs → fs.length = dfs.length
  | [], _, h => by cases h; rfl
  | x :: r, _, h => by
    obtain ⟨d, s, rfl, h1, h2, h3⟩ := h
    rw [List.length_cons, List.length_cons, RepF.length h3]
theorem RepF.putFA {f : Str} {x : P} {d : D} (rx : RepP wd S x d) : ∀ {fs : List (Str × P)} {dfs : List (Str × D)}, RepF wd S fs dfs → RepF wd S (WW.putFA f x fs) (WW.putFA f d dfs)
  | [], _, h => by cases h; exact ⟨d, [], rfl, rx.1, rx.2, rfl⟩
  | (g, y) :: r, _, h => by
    obtain ⟨d', s, rfl, h1, h2, h3⟩ := h
    unfold WW.putFA
    by_cases e : g = f
    · rw [if_pos e, if_pos e]
      exact ⟨d, s, rfl, rx.1, rx.2, h3⟩
    · rw [if_neg e, if_neg e]
      exact ⟨d', _, rfl, h1, h2, RepF.putFA rx h3⟩
theorem repT_obj {c : Str} {fs : List (Str × P)} {n : Nat} (h : RepT wd S (.obj c fs) (.ref n)) : ∃ vis, S[n]? = some (.ins c vis) ∧ RepF wd S fs vis := by
  obtain ⟨m, vis, mem, e, h1, h2, h3⟩ := h
  cases e
  cases (show mem = [] from h3)
  rw [List.append_nil] at h1
  exact ⟨vis, h1, h2⟩
theorem obj_ref {c : Str} {fs : List (Str × P)} {d : D} (h : RepT wd S (.obj c fs) d) : ∃ n, d = .ref n := by
  obtain ⟨m, vis, mem, e, h1, h2, h3⟩ := h
  exact ⟨m, e⟩
theorem repT_objI {c : Str} {fs : List (Str × P)} {n : Nat} {vis : List (Str × D)} (h1 : S[n]? = some (.ins c vis)) (h2 : RepF wd S fs vis) : RepT wd S (.obj c fs) (.ref n) :=
  ⟨n, vis, [], rfl, by rw [List.append_nil]; exact h1, h2, rfl⟩
theorem sim_fld {cs : List Str} {f : Str} {a : W} {va : VE} (ha : SimE a va) : SimE (wFld cs f a) (vFld cs f va) := fun X E Qv q wd ρ S xq Qd I k x =>
  ha X E _ q wd ρ S xq _ I (fun h1 E1 wd1 d1 S1 q1 I1 T1 r1 => by
    obtain ⟨x, e1, q1⟩ := gv_iff.mp q1
    obtain ⟨⟨c, fs⟩, e2, q2⟩ := gv_iff.mp q1
    obtain ⟨y, e3, q3⟩ := gv_iff.mp q2
    obtain ⟨hx, hc⟩ := objP_iff e2
    have rr := rd_rep I1 r1 e1
    rw [hx] at rr
    obtain ⟨n, rfl⟩ := obj_ref rr
    obtain ⟨vis, h, rf⟩ := repT_obj rr
    obtain ⟨d, e4, r4⟩ := rf.look e3
    exact ⟨c, _, h, hc, gv_iff.mpr ⟨d, e4, fin1 I1 T1 k q3 (Res1.pas r4)⟩⟩) x
theorem sim_fset {cs : List Str} {j : Nat} {f : Str} {wv : W} {vv : VE} (hv : SimE wv vv) : SimS (wFSet cs f (wVar j) wv) (vFSet cs j f vv) := fun kv E q k wd ρ S I R =>
  hv _ _ _ q wd ρ S _ _ I (fun h E1 wd1 d S1 q1 I1 T1 r1 => by
    obtain ⟨v, e, q1⟩ := gv_iff.mp q1
    obtain ⟨dx, e1, rx⟩ := I1.rep j v e
    show gv (look ρ j) fun x => _
    rw [e1]
    obtain ⟨⟨y, E3⟩, e3, q2⟩ := gv_iff.mp q1
    obtain ⟨w, e4, ho, q2⟩ := gv_iff.mp q2
    obtain ⟨⟨c, fs⟩, e5, hlen, q2⟩ := gv_iff.mp q2
    obtain ⟨wd3, I3, T3, r3⟩ := take1_ok I1 T1 r1 e3
    obtain ⟨d', e6, r6⟩ := I3.rep j w e4
    rw [e1] at e6
    cases e6
    obtain ⟨hw, hc⟩ := objP_iff e5
    have rw' := r6.top
    rw [hw] at rw'
    obtain ⟨n, rfl⟩ := obj_ref rw'
    obtain ⟨vis, h, rf⟩ := repT_obj rw'
    refine ⟨c, vis, h, hc, by rw [← rf.length]; exact Nat.lt_trans hlen (by decide), ?_⟩
    obtain ⟨I4, T4⟩ := own_write (x' := .obj c (putFA f y fs)) (ob := .ins c (putFA f d vis)) I3 e4 ho e1 fun S' K e => repT_objI e (RepF.keep K _ _ (rf.putFA r3))
    exact R.nx _ _ _ _ q2 I4 (T3.trans T4)) R.xok
theorem sim_mth {n : Nat} {c m : Str} {cv : List Cv} {sp : VSpec} {o : W} {vo : VE} {wa : WA} {ra : VA} (hn : n + 1 = cv.length) (ho : SimE o vo) (ha : SimA wa ra) : SimE (wMth c m n (up sp) o wa) (vMth c m cv sp vo ra) := fun X E Qv q wd ρ S xq Qd I k x =>
  ho X E _ q wd ρ S xq _ I (fun h E1 wd1 d S1 q1 I1 T1 r1 => by
    obtain ⟨y, e1, hm, q2⟩ := gv_iff.mp q1
    have rr := rd_rep I1 r1 e1
    cases y <;> try exact hm.elim
    rename_i c' fs
    obtain ⟨rfl, hm⟩ := hm
    obtain ⟨n, rfl⟩ := obj_ref rr
    obtain ⟨vis, h1, rf⟩ := repT_obj rr
    refine ⟨⟨vis, h1, rf.look_none hm⟩, ha X E1 _ q2 wd1 ρ S1 xq _ I1 (fun hs E2 wd2 ds S2 q3 I2 T2 r2 => ?_) (x.step T1)⟩
    exact call_core (X := X) hn k q3 I2 (T1.trans T2) ⟨_, _, rfl, r1.step I1 T2, r2.le T1.len⟩) x
/-! an env with one more slot, that owns what is new -/
theorem lk_ext {E : VEnv} {r : VEnv} {i : Nat} : i < E.length → lk (E ++ r) i = lk E i := by
  induction E generalizing i with
  | nil => intro h; cases h
  | cons x E ih => intro h; cases i with
    | zero => rfl
    | succ i => exact ih (Nat.lt_of_succ_lt_succ h)
theorem lk_extL {E : VEnv} {v : Option V'} : lk (E ++ [v]) E.length = v := by
  induction E with
  | nil => rfl
  | cons x E ih => exact ih
theorem look_ext {E : Rho} {r : Rho} {i : Nat} : i < E.length → look (E ++ r) i = look E i := by
  induction E generalizing i with
  | nil => intro h; cases h
  | cons x E ih => intro h; cases i with
    | zero => rfl
    | succ i => exact ih (Nat.lt_of_succ_lt_succ h)
theorem look_extL {E : Rho} {v : Option D} : look (E ++ [v]) E.length = v := by
  induction E with
  | nil => rfl
  | cons x E ih => exact ih
theorem lk_ext_cases {E : VEnv} {w : Option V'} {i : Nat} {v : V'} (h : lk (E ++ [w]) i = some v) : (i < E.length ∧ lk E i = some v) ∨ (i = E.length ∧ w = some v) := by
  have := lk_lt h
  rw [List.length_append, List.length_singleton] at this
  rcases Nat.lt_or_ge i E.length with hl | hl
  · rw [lk_ext hl] at h; exact .inl ⟨hl, h⟩
  · have : i = E.length := by omega
    subst this
    rw [lk_extL] at h
    exact .inr ⟨rfl, h⟩
theorem own_ext (hl : E.length = ρ.length) {x : P} {m n : Nat} : OwnAt (E ++ [some (.o x)]) (ρ ++ [some (.ref m)]) n ↔ OwnAt E ρ n ∨ n = m := by
  constructor
  · rintro ⟨i, v, h1, h2, h3⟩
    rcases lk_ext_cases h1 with ⟨hi, h⟩ | ⟨rfl, h⟩
    · rw [look_ext (by omega)] at h3
      exact .inl ⟨i, v, h, h2, h3⟩
    · rw [hl, look_extL] at h3
      cases h3
      exact .inr rfl
  · rintro (⟨i, v, h1, h2, h3⟩ | rfl)
    · have := lk_lt h1
      exact ⟨i, v, by rw [lk_ext this]; exact h1, h2, by rw [look_ext (by omega)]; exact h3⟩
    · exact ⟨E.length, _, lk_extL, rfl, by rw [hl, look_extL]⟩
theorem inv_ext (I : Inv' wd E ρ S) {o : O} {x : P} (hx : RepT wd (S ++ [o]) x (.ref S.length)) : Inv' wd (E ++ [some (.o x)]) (ρ ++ [some (.ref S.length)]) (S ++ [o]) := by
  have I1 := I.push o
  obtain ⟨f1, f2, f3⟩ := fresh_ok I
  have hl := I.len
  refine ⟨by simp [hl], fun i v h => ?_, fun i j v w n h1 h2 h3 h4 h5 h6 => ?_, fun i y n h e => ?_, fun n h => ?_, I1.shl, I1.gok⟩
  · rcases lk_ext_cases h with ⟨hi, h'⟩ | ⟨rfl, h'⟩
    · rw [look_ext (by omega)]
      exact I1.rep i v h'
    · cases h'
      exact ⟨_, by rw [hl, look_extL], hx, _, rfl⟩
  · rcases lk_ext_cases h1 with ⟨hi, h1⟩ | ⟨rfl, h1⟩ <;> rcases lk_ext_cases h2 with ⟨hj, h2⟩ | ⟨rfl, h2⟩
    · rw [look_ext (by omega)] at h5 h6
      exact I.one i j v w n h1 h2 h3 h4 h5 h6
    · rw [look_ext (by omega)] at h5
      rw [hl, look_extL] at h6
      cases h6
      exact absurd ⟨i, v, h1, h3, h5⟩ f3
    · rw [look_ext (by omega)] at h6
      rw [hl, look_extL] at h5
      cases h5
      exact absurd ⟨j, w, h2, h4, h6⟩ f3
    · rfl
  · rcases lk_ext_cases h with ⟨hi, h'⟩ | ⟨rfl, h'⟩
    · rw [look_ext (by omega)] at e
      obtain ⟨a, b⟩ := I.bor i y n h' e
      refine ⟨fun z => ?_, b⟩
      rcases (own_ext hl).mp z with z | z
      · exact a z
      · subst z
        obtain ⟨d, e1, r⟩ := I.rep i _ h'
        rw [e] at e1
        cases e1
        obtain ⟨o, ho⟩ := RepT.at_ r
        have := at_lt ho
        omega
    · cases h'
  · rcases (own_ext hl).mp h with h | rfl
    · exact I.osh n h
    · exact ⟨f1, f2⟩
theorem drop_inv {w : Option V'} {d : Option D} (hl : E.length = ρ.length) (I : Inv' wd (E ++ [w]) (ρ ++ [d]) S) : Inv' wd E ρ S := by
  have g : ∀ i v, lk E i = some v → lk (E ++ [w]) i = some v ∧ look (ρ ++ [d]) i = look ρ i := fun i v h => by
    have := lk_lt h
    exact ⟨by rw [lk_ext this]; exact h, look_ext (by omega)⟩
  have go : ∀ n, OwnAt E ρ n → OwnAt (E ++ [w]) (ρ ++ [d]) n := fun n ⟨i, v, h1, h2, h3⟩ => by
    obtain ⟨a, b⟩ := g i v h1
    exact ⟨i, v, a, h2, by rw [b]; exact h3⟩
  refine ⟨hl, fun i v h => ?_, fun i j v w' n h1 h2 h3 h4 h5 h6 => ?_, fun i y n h e => ?_, fun n h => I.osh n (go n h), I.shl, I.gok⟩
  · obtain ⟨a, b⟩ := g i v h
    rw [← b]
    exact I.rep i v a
  · obtain ⟨a, b⟩ := g i v h1
    obtain ⟨a', b'⟩ := g j w' h2
    exact I.one i j v w' n a a' h3 h4 (by rw [b]; exact h5) (by rw [b']; exact h6)
  · obtain ⟨a, b⟩ := g i _ h
    obtain ⟨p, q⟩ := I.bor i y n a (by rw [b]; exact e)
    exact ⟨fun z => p (go n z), q⟩
theorem drop_step {o : O} {x : P} {w : Option V'} (hl : E.length = ρ.length) (hl' : E'.length = ρ.length) (T : Step wd (E ++ [some (.o x)]) (ρ ++ [some (.ref S.length)]) (S ++ [o]) wd' (E' ++ [w]) (ρ ++ [some (.ref S.length)]) S') : Step wd E ρ S wd' E' ρ S' := by
  have g : ∀ i v, lk E' i = some v → lk (E' ++ [w]) i = some v ∧ look (ρ ++ [some (.ref S.length)]) i = look ρ i := fun i v h => by
    have := lk_lt h
    exact ⟨by rw [lk_ext this]; exact h, look_ext (by omega)⟩
  have go : ∀ n, OwnAt E' ρ n → OwnAt (E' ++ [w]) (ρ ++ [some (.ref S.length)]) n := fun n ⟨i, v, h1, h2, h3⟩ => by
    obtain ⟨a, b⟩ := g i v h1
    exact ⟨i, v, a, h2, by rw [b]; exact h3⟩
  have hs : S.length + 1 ≤ S'.length := by have := T.len; rwa [List.length_append, List.length_singleton] at this
  refine ⟨by omega, T.shm, fun n h => ?_, T.Gm, fun n φ h => ?_, fun n h => ?_, fun n u h h1 h2 => ?_, fun i y h => ?_, fun i y h => ?_, fun i y n h e => ?_⟩
  · rcases T.shn n h with q | q | q
    · exact .inl q
    · rw [List.length_append, List.length_singleton] at q; exact .inr (.inl (by omega))
    · rcases (own_ext hl).mp q with q | q
      · exact .inr (.inr q)
      · exact .inr (.inl (by omega))
  · rcases T.Gn n φ h with q | q
    · exact .inl q
    · rw [List.length_append, List.length_singleton] at q; exact .inr (by omega)
  · rcases T.own n (go n h) with q | q
    · rcases (own_ext hl).mp q with q | q
      · exact .inl q
      · exact .inr (by omega)
    · rw [List.length_append, List.length_singleton] at q; exact .inr (by omega)
  · have hn := at_lt h
    refine T.fr n u (by rw [List.getElem?_append_left hn]; exact h) (fun z => ?_) h2
    rcases (own_ext hl).mp z with z | z
    · exact h1 z
    · omega
  · obtain ⟨a, b⟩ := g i _ h
    obtain ⟨p, q⟩ := T.bor i y a
    have := lk_lt h
    rw [lk_ext (by omega)] at p
    exact ⟨p, rfl⟩
  · obtain ⟨a, b⟩ := g i _ h
    obtain ⟨⟨z, p⟩, q⟩ := T.io i y a
    have := lk_lt h
    rw [lk_ext (by omega)] at p
    exact ⟨⟨z, p⟩, rfl⟩
  · obtain ⟨a, b⟩ := g i _ h
    rcases T.oo i y n a (by rw [b]; exact e) with ⟨j, z, p, q⟩ | q
    · rcases lk_ext_cases p with ⟨hj, p⟩ | ⟨rfl, p⟩
      · rw [look_ext (by omega)] at q
        exact .inl ⟨j, z, p, q⟩
      · rw [hl, look_extL] at q
        cases q
        exact .inr (Nat.le_refl _)
    · rw [List.length_append, List.length_singleton] at q; exact .inr (by omega)
theorem pt_ext {E r : VEnv} {i : Nat} {v : Option V'} : i < E.length → pt (E ++ r) i v = pt E i v ++ r := by
  induction E generalizing i with
  | nil => intro h; cases h
  | cons x E ih => intro h; cases i with
    | zero => rfl
    | succ i =>
      show x :: pt (E ++ r) i v = x :: (pt E i v ++ r)
      rw [ih (Nat.lt_of_succ_lt_succ h)]
theorem pt_extL {E : VEnv} {v w : Option V'} : pt (E ++ [w]) E.length v = E ++ [v] := by
  induction E with
  | nil => rfl
  | cons x E ih =>
    show x :: pt (E ++ [w]) E.length v = x :: (E ++ [v])
    rw [ih]
theorem putIO_ext {r : VEnv} : ∀ {is : List Nat} {ys : List P} {E : VEnv}, (∀ i ∈ is, i < E.length) → putIO (E ++ r) is ys = putIO E is ys ++ r
  | [], ys, E, _ => by cases ys <;> rfl
  | i :: is, [], E, _ => rfl
  | i :: is, y :: ys, E, h => by
    have hi := h i (List.mem_cons_self ..)
    have hr := fun j hj => h j (List.mem_cons_of_mem _ hj)
    unfold putIO
    rw [lk_ext hi]
    cases e : lk E i with
    | none => exact putIO_ext hr
    | some v =>
      show putIO (pt (E ++ r) i _) is ys = putIO (pt E i _) is ys ++ r
      rw [pt_ext hi, putIO_ext (by rw [pt_len]; exact hr)]
theorem putIO_len : ∀ {is : List Nat} {ys : List P} {E : VEnv}, (putIO E is ys).length = E.length
  | [], ys, E => by cases ys <;> rfl
  | i :: is, [], E => rfl
  | i :: is, y :: ys, E => by
    unfold putIO
    split
    · rw [putIO_len, pt_len]
    · exact putIO_len
theorem ArgOk.ext (I : Inv' wd E ρ S) {o : O} {x : P} {t : Arg} (h : ArgOk wd E ρ S t) : ArgOk wd (E ++ [some (.o x)]) (ρ ++ [some (.ref S.length)]) (S ++ [o]) t := by
  have K := keep_push I o
  have hl := I.len
  rcases h with ⟨y, e, r⟩ | ⟨i, v, e1, e2, e3, e4, r, e5⟩ | ⟨i, v, n, e1, e2, e3, e4, e5, e6, r⟩
  · exact .inl ⟨y, e, r.keep K⟩
  · have := lk_lt e3
    exact .inr (.inl ⟨i, v, e1, e2, by rw [lk_ext this]; exact e3, by rw [look_ext (by omega)]; exact e4, RepT.keepT K _ _ r (tk_push _), e5⟩)
  · have := lk_lt e3
    exact .inr (.inr ⟨i, v, n, e1, e2, by rw [lk_ext this]; exact e3, e4, e5, by rw [look_ext (by omega)]; exact e6, RepT.keepT K _ _ r (tk_push _)⟩)
theorem sim_mak {n : Nat} {c : Str} {cv : List Cv} {sp : VSpec} {wa : WA} {ra : VA} (hn : n = cv.length) (ha : SimA wa ra) : SimE (wMak c n (up sp) wa) (vMak c cv sp ra) := fun X E Qv q wd ρ S xq Qd I k x =>
  ha X E _ q wd ρ S xq _ I (fun hs E1 wd1 ds S1 q1 I1 T1 r1 => by
    obtain ⟨hio, q1⟩ := q1
    obtain ⟨⟨xs, E2⟩, e1, q1⟩ := gv_iff.mp q1
    obtain ⟨us, e2, q1⟩ := gv_iff.mp q1
    dsimp only at e2 q1
    obtain ⟨wd2, I2, T2, r2⟩ := takeL_ok I1 T1 (tk_rep (cs := cv) r1) e1
    have hcl := cvt_len _ _ _ _ e2
    obtain ⟨l, a1, a2, a3, a4, a5, _, a7⟩ := cvt_ok I2 (wd1 := wd1) (E1 := E1) (S1 := S1) r1 e2 r2
    subst a1 a2 a3
    have nc := a7 hio
    have hlE := I2.len
    have hob : RepT wd2 (S1 ++ [.ins c []]) (.obj c []) (.ref S1.length) := repT_objI (vis := []) (by rw [List.getElem?_append_right (Nat.le_refl _), Nat.sub_self]; rfl) rfl
    have I3 := inv_ext (x := .obj c []) I2 hob
    have hself : lk (E2 ++ [some (V'.o (.obj c []))]) E2.length = some (V'.o (.obj c [])) := lk_extL
    have hlself : look (ρ ++ [some (.ref S1.length)]) E2.length = some (.ref S1.length) := by rw [hlE, look_extL]
    let l3 : List Arg := (.slot E2.length, .io (.obj c []), .ref S1.length) :: l
    have a43 : ∀ t ∈ l3, ArgOk wd2 (E2 ++ [some (V'.o (.obj c []))]) (ρ ++ [some (.ref S1.length)]) (S1 ++ [.ins c []]) t := fun t ht => by
      rcases List.mem_cons.mp ht with rfl | ht
      · exact .inr (.inr ⟨_, _, _, rfl, rfl, hself, rfl, rfl, hlself, hob⟩)
      · exact (a4 t ht).ext I2
    have slt : ∀ t ∈ l, ∀ i, t.1 = .slot i → (∀ x, t.2.1 ≠ .p x) → i < E2.length := fun t ht i e hp => by
      rcases a4 t ht with ⟨y, e', _⟩ | ⟨j, v, e1, e2, e3, _⟩ | ⟨j, v, m, e1, e2, e3, _⟩
      · exact absurd e' (hp y)
      · rw [e] at e2; cases e2; exact lk_lt e3
      · rw [e] at e2; cases e2; exact lk_lt e3
    have nc3 : l3.Pairwise NC := List.pairwise_cons.mpr ⟨fun t ht a h1 h2 _ h4 _ => by
      cases h1
      have := slt t ht _ h2 h4
      omega, nc⟩
    obtain ⟨Ic, _⟩ := callee_inv I3 a43 nc3
    refine ⟨by rw [List.length_cons, List.length_map, hn, hcl, List.length_map], (fun d S2 => d = .non ∧ Qd (.ref S1.length) S2), ⟨wd2, _, _, Ic, fun u hu x e => ?_, q1, fun v ys wd' E' ρ' S' d q2 I' T' rh hy => ?_⟩, fun _ _ h => h⟩
    · obtain ⟨t, ht, rfl⟩ := List.mem_map.mp hu
      rcases a43 t ht with ⟨y, e1, _⟩ | ⟨j, w, e1, _⟩ | ⟨j, w, m, e1, _⟩ <;> (rw [e1] at e; cases e)
    · obtain ⟨rfl, q2⟩ := q2
      cases ys with
      | nil => exact q2.elim
      | cons y r =>
        obtain ⟨I4, T4, O4⟩ := caller_inv I3 a43 nc3 I' T' hy
        have hp : putIO (E2 ++ [some (V'.o (.obj c []))]) (argIO l3) (y :: r) = putIO E2 (argIO l) r ++ [some (.o y)] := by
          show (match lk (E2 ++ [some (V'.o (.obj c []))]) E2.length with | some v => putIO (pt (E2 ++ [some (V'.o (.obj c []))]) E2.length (some (v.re y))) (argIO l) r | none => putIO (E2 ++ [some (V'.o (.obj c []))]) (argIO l) r) = _
          rw [hself]
          show putIO (pt (E2 ++ [_]) E2.length (some (.o y))) (argIO l) r = _
          rw [pt_extL, putIO_ext fun i hi => ?_]
          obtain ⟨t, ht, e1, x, e2⟩ := argIO_mem hi
          exact slt t ht i e1 fun z e => by rw [e2] at e; cases e
        rw [hp] at I4 T4 O4
        have hl4 : (putIO E2 (argIO l) r).length = ρ.length := by rw [putIO_len, hlE]
        have I5 := drop_inv hl4 I4
        have T5 := drop_step hlE hl4 T4
        have hlast : lk (putIO E2 (argIO l) r ++ [some (.o y)]) (putIO E2 (argIO l) r).length = some (.o y) := lk_extL
        have hlook : look (ρ ++ [some (.ref S1.length)]) (putIO E2 (argIO l) r).length = some (.ref S1.length) := by rw [hl4, look_extL]
        obtain ⟨d', e3, r3⟩ := I4.rep _ _ hlast
        rw [hlook] at e3
        cases e3
        obtain ⟨s1, s2⟩ := I4.osh S1.length ⟨_, _, hlast, rfl, hlook⟩
        rw [← a5] at q2
        refine ⟨rh.1, k _ _ _ _ _ q2 I5 (T2.trans T5) ⟨r3.1, _, rfl, T2.len, s1, s2, fun ⟨i, w, h1, h2, h3⟩ => ?_⟩⟩
        have hi := lk_lt h1
        have := I4.one i _ w _ S1.length (by rw [lk_ext hi]; exact h1) hlast h2 rfl (by rw [look_ext (by omega)]; exact h3) hlook
        omega) x
end
end WW


set_option Elab.async false
set_option linter.all false
set_option maxRecDepth 100000
set_option maxHeartbeats 4000000
set_option autoImplicit false
namespace WW
open PySem PySem.Spec PyProof.Rows L2
/- links_near(links, switch): slots links=0 switch=1 number=2 ends=3 -/
def c_links_near : WS :=
  (wRet (wBlt tupleC (wCons (wLc (wEnum (wCons (wVar 0) wNil)) (.tp [2, 3]) (wTsB (wOp (cmpD .In) (wVar 1) (wVar 3))) (wVar 2) [2, 3]) wNil)))
def v_links_near : VS :=
  (vRet (vBlt cTuple (vCons (vLc (vEnum (vCons (vVar 0) vNil)) (.tp [2, 3]) (vTsB (vOp (oIn false) (vVar 1) (vVar 3))) (vVar 2) [2, 3]) vNil)))
theorem sim_links_near : SimS (c_links_near) (v_links_near) := by
  unfold c_links_near v_links_near
  exact (sim_ret (sim_blt sim_tuple (sim_cons (sim_lc (sim_enum (sim_cons (sim_var 0) sim_nil)) (sim_tsB (sim_op (sim_in false) (sim_var 1) (sim_var 3))) (sim_var 2) (by decide)) sim_nil)))
def sp_links_near : VSpec := wpOf 4 (v_links_near)
theorem run_links_near {u0 u1 : V'} {Q : V' → List P → Prop} : sp_links_near [u0, u1] Q = v_links_near (kvOf [u0, u1] Q) [some u0, some u1, none, none] := rfl
theorem good_links_near : Good 4 2 (c_links_near) (up sp_links_near) := good_up (sim_links_near)

/- hosts_near(homes, switch): slots homes=0 switch=1 host=2 home=3 -/
def c_hosts_near : WS :=
  (wRet (wBlt tupleC (wCons (wLc (wEnum (wCons (wVar 0) wNil)) (.tp [2, 3]) (wTsB (wOp (cmpD .Eq) (wVar 3) (wVar 1))) (wVar 2) [2, 3]) wNil)))
def v_hosts_near : VS :=
  (vRet (vBlt cTuple (vCons (vLc (vEnum (vCons (vVar 0) vNil)) (.tp [2, 3]) (vTsB (vOp (oEq false) (vVar 3) (vVar 1))) (vVar 2) [2, 3]) vNil)))
theorem sim_hosts_near : SimS (c_hosts_near) (v_hosts_near) := by
  unfold c_hosts_near v_hosts_near
  exact (sim_ret (sim_blt sim_tuple (sim_cons (sim_lc (sim_enum (sim_cons (sim_var 0) sim_nil)) (sim_tsB (sim_op (sim_eq false) (sim_var 3) (sim_var 1))) (sim_var 2) (by decide)) sim_nil)))
def sp_hosts_near : VSpec := wpOf 4 (v_hosts_near)
theorem run_hosts_near {u0 u1 : V'} {Q : V' → List P → Prop} : sp_hosts_near [u0, u1] Q = v_hosts_near (kvOf [u0, u1] Q) [some u0, some u1, none, none] := rfl
theorem good_hosts_near : Good 4 2 (c_hosts_near) (up sp_hosts_near) := good_up (sim_hosts_near)

/- __init__(self, data, marks, switches, links, hosts): slots self=0 data=1 marks=2 switches=3 links=4 hosts=5 name=6 room=7 kind=8 one=9 other=10 home=11 tenant=12 relay=13 at=14 -/
def c_Net_init (p_links_near : Spec) (p_hosts_near : Spec) : WS :=
  (wSq (wFSet [Str.ofString "Net"] (Str.ofString "data") (wVar 0) (wVar 1))
  (wSq (wFSet [Str.ofString "Net"] (Str.ofString "marks") (wVar 0) (wVar 2))
  (wSq (wFSet [Str.ofString "Net"] (Str.ofString "width") (wVar 0) (wOp opAdd (wVar 1) (wVar 2)))
  (wSq (wFSet [Str.ofString "Net"] (Str.ofString "switches") (wVar 0) (wBlt tupleC (wCons (wLc (wSeqI (wVar 3)) (.tp [6, 7, 8]) wYes (wVar 6) [6, 7, 8]) wNil)))
  (wSq (wFSet [Str.ofString "Net"] (Str.ofString "rooms") (wVar 0) (wBlt tupleC (wCons (wLc (wSeqI (wVar 3)) (.tp [6, 7, 8]) wYes (wVar 7) [6, 7, 8]) wNil)))
  (wSq (wFSet [Str.ofString "Net"] (Str.ofString "kinds") (wVar 0) (wBlt tupleC (wCons (wLc (wSeqI (wVar 3)) (.tp [6, 7, 8]) wYes (wVar 8) [6, 7, 8]) wNil)))
  (wSq (wFSet [Str.ofString "Net"] (Str.ofString "links") (wVar 0) (wBlt tupleC (wCons (wLc (wSeqI (wVar 4)) (.tp [9, 10, 7]) wYes (wTup (wCons (wVar 9) (wCons (wVar 10) wNil))) [9, 10, 7]) wNil)))
  (wSq (wFSet [Str.ofString "Net"] (Str.ofString "link_rooms") (wVar 0) (wBlt tupleC (wCons (wLc (wSeqI (wVar 4)) (.tp [9, 10, 7]) wYes (wVar 7) [9, 10, 7]) wNil)))
  (wSq (wFSet [Str.ofString "Net"] (Str.ofString "hosts") (wVar 0) (wBlt tupleC (wCons (wLc (wSeqI (wVar 5)) (.tp [6, 11, 12, 13]) wYes (wVar 6) [6, 11, 12, 13]) wNil)))
  (wSq (wFSet [Str.ofString "Net"] (Str.ofString "homes") (wVar 0) (wBlt tupleC (wCons (wLc (wSeqI (wVar 5)) (.tp [6, 11, 12, 13]) wYes (wVar 11) [6, 11, 12, 13]) wNil)))
  (wSq (wFSet [Str.ofString "Net"] (Str.ofString "tenants") (wVar 0) (wBlt tupleC (wCons (wLc (wSeqI (wVar 5)) (.tp [6, 11, 12, 13]) wYes (wVar 12) [6, 11, 12, 13]) wNil)))
  (wSq (wFSet [Str.ofString "Net"] (Str.ofString "relays") (wVar 0) (wBlt tupleC (wCons (wLc (wSeqI (wVar 5)) (.tp [6, 11, 12, 13]) wYes (wVar 13) [6, 11, 12, 13]) wNil)))
  (wSq (wFSet [Str.ofString "Net"] (Str.ofString "data_care") (wVar 0) (wOp opSub (wOp opShl (wCst (.int 1)) (wVar 1)) (wCst (.int 1))))
  (wSq (wFSet [Str.ofString "Net"] (Str.ofString "mark_care") (wVar 0) (wOp opShl (wOp opSub (wOp opShl (wCst (.int 1)) (wVar 2)) (wCst (.int 1))) (wVar 1)))
  (wSq (wFSet [Str.ofString "Net"] (Str.ofString "near_links") (wVar 0) (wBlt tupleC (wCons (wLc (wRng (wCons (wBlt lenC (wCons (wFld [Str.ofString "Net"] (Str.ofString "switches") (wVar 0)) wNil)) wNil)) (.nm 14) wYes (wCall 2 p_links_near (wCons (wFld [Str.ofString "Net"] (Str.ofString "links") (wVar 0)) (wCons (wVar 14) wNil))) [14]) wNil)))
  (wFSet [Str.ofString "Net"] (Str.ofString "near_hosts") (wVar 0) (wBlt tupleC (wCons (wLc (wRng (wCons (wBlt lenC (wCons (wFld [Str.ofString "Net"] (Str.ofString "switches") (wVar 0)) wNil)) wNil)) (.nm 14) wYes (wCall 2 p_hosts_near (wCons (wFld [Str.ofString "Net"] (Str.ofString "homes") (wVar 0)) (wCons (wVar 14) wNil))) [14]) wNil))))))))))))))))))
def v_Net_init (q_links_near : VSpec) (q_hosts_near : VSpec) : VS :=
  (vSq (vFSet [Str.ofString "Net"] 0 (Str.ofString "data") (vVar 1))
  (vSq (vFSet [Str.ofString "Net"] 0 (Str.ofString "marks") (vVar 2))
  (vSq (vFSet [Str.ofString "Net"] 0 (Str.ofString "width") (vOp oAdd (vVar 1) (vVar 2)))
  (vSq (vFSet [Str.ofString "Net"] 0 (Str.ofString "switches") (vBlt cTuple (vCons (vLc (vSeqI (vVar 3)) (.tp [6, 7, 8]) vYes (vVar 6) [6, 7, 8]) vNil)))
  (vSq (vFSet [Str.ofString "Net"] 0 (Str.ofString "rooms") (vBlt cTuple (vCons (vLc (vSeqI (vVar 3)) (.tp [6, 7, 8]) vYes (vVar 7) [6, 7, 8]) vNil)))
  (vSq (vFSet [Str.ofString "Net"] 0 (Str.ofString "kinds") (vBlt cTuple (vCons (vLc (vSeqI (vVar 3)) (.tp [6, 7, 8]) vYes (vVar 8) [6, 7, 8]) vNil)))
  (vSq (vFSet [Str.ofString "Net"] 0 (Str.ofString "links") (vBlt cTuple (vCons (vLc (vSeqI (vVar 4)) (.tp [9, 10, 7]) vYes (vTup (vCons (vVar 9) (vCons (vVar 10) vNil))) [9, 10, 7]) vNil)))
  (vSq (vFSet [Str.ofString "Net"] 0 (Str.ofString "link_rooms") (vBlt cTuple (vCons (vLc (vSeqI (vVar 4)) (.tp [9, 10, 7]) vYes (vVar 7) [9, 10, 7]) vNil)))
  (vSq (vFSet [Str.ofString "Net"] 0 (Str.ofString "hosts") (vBlt cTuple (vCons (vLc (vSeqI (vVar 5)) (.tp [6, 11, 12, 13]) vYes (vVar 6) [6, 11, 12, 13]) vNil)))
  (vSq (vFSet [Str.ofString "Net"] 0 (Str.ofString "homes") (vBlt cTuple (vCons (vLc (vSeqI (vVar 5)) (.tp [6, 11, 12, 13]) vYes (vVar 11) [6, 11, 12, 13]) vNil)))
  (vSq (vFSet [Str.ofString "Net"] 0 (Str.ofString "tenants") (vBlt cTuple (vCons (vLc (vSeqI (vVar 5)) (.tp [6, 11, 12, 13]) vYes (vVar 12) [6, 11, 12, 13]) vNil)))
  (vSq (vFSet [Str.ofString "Net"] 0 (Str.ofString "relays") (vBlt cTuple (vCons (vLc (vSeqI (vVar 5)) (.tp [6, 11, 12, 13]) vYes (vVar 13) [6, 11, 12, 13]) vNil)))
  (vSq (vFSet [Str.ofString "Net"] 0 (Str.ofString "data_care") (vOp oSub (vOp oShl (vCst (np 1)) (vVar 1)) (vCst (np 1))))
  (vSq (vFSet [Str.ofString "Net"] 0 (Str.ofString "mark_care") (vOp oShl (vOp oSub (vOp oShl (vCst (np 1)) (vVar 2)) (vCst (np 1))) (vVar 1)))
  (vSq (vFSet [Str.ofString "Net"] 0 (Str.ofString "near_links") (vBlt cTuple (vCons (vLc (vRng (vCons (vBlt cLen (vCons (vFld [Str.ofString "Net"] (Str.ofString "switches") (vVar 0)) vNil)) vNil)) (.nm 14) vYes (vCall [.a, .a] q_links_near (vCons (vFld [Str.ofString "Net"] (Str.ofString "links") (vVar 0)) (vCons (vVar 14) vNil))) [14]) vNil)))
  (vFSet [Str.ofString "Net"] 0 (Str.ofString "near_hosts") (vBlt cTuple (vCons (vLc (vRng (vCons (vBlt cLen (vCons (vFld [Str.ofString "Net"] (Str.ofString "switches") (vVar 0)) vNil)) vNil)) (.nm 14) vYes (vCall [.a, .a] q_hosts_near (vCons (vFld [Str.ofString "Net"] (Str.ofString "homes") (vVar 0)) (vCons (vVar 14) vNil))) [14]) vNil))))))))))))))))))
theorem sim_Net_init (q_links_near : VSpec) (q_hosts_near : VSpec) : SimS (c_Net_init (up q_links_near) (up q_hosts_near)) (v_Net_init q_links_near q_hosts_near) := by
  unfold c_Net_init v_Net_init
  exact (sim_sq (sim_fset (sim_var 1))
  (sim_sq (sim_fset (sim_var 2))
  (sim_sq (sim_fset (sim_op sim_add (sim_var 1) (sim_var 2)))
  (sim_sq (sim_fset (sim_blt sim_tuple (sim_cons (sim_lc (sim_seqI (sim_var 3)) sim_yes (sim_var 6) (by decide)) sim_nil)))
  (sim_sq (sim_fset (sim_blt sim_tuple (sim_cons (sim_lc (sim_seqI (sim_var 3)) sim_yes (sim_var 7) (by decide)) sim_nil)))
  (sim_sq (sim_fset (sim_blt sim_tuple (sim_cons (sim_lc (sim_seqI (sim_var 3)) sim_yes (sim_var 8) (by decide)) sim_nil)))
  (sim_sq (sim_fset (sim_blt sim_tuple (sim_cons (sim_lc (sim_seqI (sim_var 4)) sim_yes (sim_tup (sim_cons (sim_var 9) (sim_cons (sim_var 10) sim_nil))) (by decide)) sim_nil)))
  (sim_sq (sim_fset (sim_blt sim_tuple (sim_cons (sim_lc (sim_seqI (sim_var 4)) sim_yes (sim_var 7) (by decide)) sim_nil)))
  (sim_sq (sim_fset (sim_blt sim_tuple (sim_cons (sim_lc (sim_seqI (sim_var 5)) sim_yes (sim_var 6) (by decide)) sim_nil)))
  (sim_sq (sim_fset (sim_blt sim_tuple (sim_cons (sim_lc (sim_seqI (sim_var 5)) sim_yes (sim_var 11) (by decide)) sim_nil)))
  (sim_sq (sim_fset (sim_blt sim_tuple (sim_cons (sim_lc (sim_seqI (sim_var 5)) sim_yes (sim_var 12) (by decide)) sim_nil)))
  (sim_sq (sim_fset (sim_blt sim_tuple (sim_cons (sim_lc (sim_seqI (sim_var 5)) sim_yes (sim_var 13) (by decide)) sim_nil)))
  (sim_sq (sim_fset (sim_op sim_sub (sim_op sim_shl (sim_int 1) (sim_var 1)) (sim_int 1)))
  (sim_sq (sim_fset (sim_op sim_shl (sim_op sim_sub (sim_op sim_shl (sim_int 1) (sim_var 2)) (sim_int 1)) (sim_var 1)))
  (sim_sq (sim_fset (sim_blt sim_tuple (sim_cons (sim_lc (sim_rng (sim_cons (sim_blt sim_len (sim_cons (sim_fld (sim_var 0)) sim_nil)) sim_nil)) sim_yes (sim_call (cv := [.a, .a]) rfl (sim_cons (sim_fld (sim_var 0)) (sim_cons (sim_var 14) sim_nil))) (by decide)) sim_nil)))
  (sim_fset (sim_blt sim_tuple (sim_cons (sim_lc (sim_rng (sim_cons (sim_blt sim_len (sim_cons (sim_fld (sim_var 0)) sim_nil)) sim_nil)) sim_yes (sim_call (cv := [.a, .a]) rfl (sim_cons (sim_fld (sim_var 0)) (sim_cons (sim_var 14) sim_nil))) (by decide)) sim_nil))))))))))))))))))
def sp_Net_init : VSpec := wpOf 15 (v_Net_init sp_links_near sp_hosts_near)
theorem run_Net_init {u0 u1 u2 u3 u4 u5 : V'} {Q : V' → List P → Prop} : sp_Net_init [u0, u1, u2, u3, u4, u5] Q = v_Net_init sp_links_near sp_hosts_near (kvOf [u0, u1, u2, u3, u4, u5] Q) [some u0, some u1, some u2, some u3, some u4, some u5, none, none, none, none, none, none, none, none, none] := rfl
theorem good_Net_init : Good 15 6 (c_Net_init (up sp_links_near) (up sp_hosts_near)) (up sp_Net_init) := good_up (sim_Net_init sp_links_near sp_hosts_near)

/- links_at(self, switch): slots self=0 switch=1 -/
def c_Net_links_at : WS :=
  (wRet (wOp idxD (wFld [Str.ofString "Net"] (Str.ofString "near_links") (wVar 0)) (wVar 1)))
def v_Net_links_at : VS :=
  (vRet (vOp oIdx (vFld [Str.ofString "Net"] (Str.ofString "near_links") (vVar 0)) (vVar 1)))
theorem sim_Net_links_at : SimS (c_Net_links_at) (v_Net_links_at) := by
  unfold c_Net_links_at v_Net_links_at
  exact (sim_ret (sim_op sim_idx (sim_fld (sim_var 0)) (sim_var 1)))
def sp_Net_links_at : VSpec := wpOf 2 (v_Net_links_at)
theorem run_Net_links_at {u0 u1 : V'} {Q : V' → List P → Prop} : sp_Net_links_at [u0, u1] Q = v_Net_links_at (kvOf [u0, u1] Q) [some u0, some u1] := rfl
theorem good_Net_links_at : Good 2 2 (c_Net_links_at) (up sp_Net_links_at) := good_up (sim_Net_links_at)

/- hosts_at(self, switch): slots self=0 switch=1 -/
def c_Net_hosts_at : WS :=
  (wRet (wOp idxD (wFld [Str.ofString "Net"] (Str.ofString "near_hosts") (wVar 0)) (wVar 1)))
def v_Net_hosts_at : VS :=
  (vRet (vOp oIdx (vFld [Str.ofString "Net"] (Str.ofString "near_hosts") (vVar 0)) (vVar 1)))
theorem sim_Net_hosts_at : SimS (c_Net_hosts_at) (v_Net_hosts_at) := by
  unfold c_Net_hosts_at v_Net_hosts_at
  exact (sim_ret (sim_op sim_idx (sim_fld (sim_var 0)) (sim_var 1)))
def sp_Net_hosts_at : VSpec := wpOf 2 (v_Net_hosts_at)
theorem run_Net_hosts_at {u0 u1 : V'} {Q : V' → List P → Prop} : sp_Net_hosts_at [u0, u1] Q = v_Net_hosts_at (kvOf [u0, u1] Q) [some u0, some u1] := rfl
theorem good_Net_hosts_at : Good 2 2 (c_Net_hosts_at) (up sp_Net_hosts_at) := good_up (sim_Net_hosts_at)

/- far(self, link, switch): slots self=0 link=1 switch=2 one=3 other=4 -/
def c_Net_far : WS :=
  (wSq (wAsgP (.tp [3, 4]) (wOp idxD (wFld [Str.ofString "Net"] (Str.ofString "links") (wVar 0)) (wVar 1)))
  (wRet (wIf (wTsB (wOp (cmpD .Eq) (wVar 2) (wVar 3))) (wVar 4) (wVar 3))))
def v_Net_far : VS :=
  (vSq (vAsgP (.tp [3, 4]) (vOp oIdx (vFld [Str.ofString "Net"] (Str.ofString "links") (vVar 0)) (vVar 1)))
  (vRet (vIf (vTsB (vOp (oEq false) (vVar 2) (vVar 3))) (vVar 4) (vVar 3))))
theorem sim_Net_far : SimS (c_Net_far) (v_Net_far) := by
  unfold c_Net_far v_Net_far
  exact (sim_sq (sim_asgP (sim_op sim_idx (sim_fld (sim_var 0)) (sim_var 1)))
  (sim_ret (sim_if (sim_tsB (sim_op (sim_eq false) (sim_var 2) (sim_var 3))) (sim_var 4) (sim_var 3))))
def sp_Net_far : VSpec := wpOf 5 (v_Net_far)
theorem run_Net_far {u0 u1 u2 : V'} {Q : V' → List P → Prop} : sp_Net_far [u0, u1, u2] Q = v_Net_far (kvOf [u0, u1, u2] Q) [some u0, some u1, some u2, none, none] := rfl
theorem good_Net_far : Good 5 3 (c_Net_far) (up sp_Net_far) := good_up (sim_Net_far)

/- host_door(self, host): slots self=0 host=1 -/
def c_Net_host_door : WS :=
  (wRet (wOp opAdd (wBlt lenC (wCons (wFld [Str.ofString "Net"] (Str.ofString "links") (wVar 0)) wNil)) (wVar 1)))
def v_Net_host_door : VS :=
  (vRet (vOp oAdd (vBlt cLen (vCons (vFld [Str.ofString "Net"] (Str.ofString "links") (vVar 0)) vNil)) (vVar 1)))
theorem sim_Net_host_door : SimS (c_Net_host_door) (v_Net_host_door) := by
  unfold c_Net_host_door v_Net_host_door
  exact (sim_ret (sim_op sim_add (sim_blt sim_len (sim_cons (sim_fld (sim_var 0)) sim_nil)) (sim_var 1)))
def sp_Net_host_door : VSpec := wpOf 2 (v_Net_host_door)
theorem run_Net_host_door {u0 u1 : V'} {Q : V' → List P → Prop} : sp_Net_host_door [u0, u1] Q = v_Net_host_door (kvOf [u0, u1] Q) [some u0, some u1] := rfl
theorem good_Net_host_door : Good 2 2 (c_Net_host_door) (up sp_Net_host_door) := good_up (sim_Net_host_door)

/- host_at(self, door): slots self=0 door=1 -/
def c_Net_host_at : WS :=
  (wSq (wIfS (wTsB (wOp (cmpD .Lt) (wVar 1) (wBlt lenC (wCons (wFld [Str.ofString "Net"] (Str.ofString "links") (wVar 0)) wNil)))) (wRet (wCst .non)) wPas)
  (wRet (wOp opSub (wVar 1) (wBlt lenC (wCons (wFld [Str.ofString "Net"] (Str.ofString "links") (wVar 0)) wNil)))))
def v_Net_host_at : VS :=
  (vSq (vIfS (vTsB (vOp oLt (vVar 1) (vBlt cLen (vCons (vFld [Str.ofString "Net"] (Str.ofString "links") (vVar 0)) vNil)))) (vRet (vCst .non)) vPas)
  (vRet (vOp oSub (vVar 1) (vBlt cLen (vCons (vFld [Str.ofString "Net"] (Str.ofString "links") (vVar 0)) vNil)))))
theorem sim_Net_host_at : SimS (c_Net_host_at) (v_Net_host_at) := by
  unfold c_Net_host_at v_Net_host_at
  exact (sim_sq (sim_ifS (sim_tsB (sim_op sim_lt (sim_var 1) (sim_blt sim_len (sim_cons (sim_fld (sim_var 0)) sim_nil)))) (sim_ret sim_non) sim_pas)
  (sim_ret (sim_op sim_sub (sim_var 1) (sim_blt sim_len (sim_cons (sim_fld (sim_var 0)) sim_nil)))))
def sp_Net_host_at : VSpec := wpOf 2 (v_Net_host_at)
theorem run_Net_host_at {u0 u1 : V'} {Q : V' → List P → Prop} : sp_Net_host_at [u0, u1] Q = v_Net_host_at (kvOf [u0, u1] Q) [some u0, some u1] := rfl
theorem good_Net_host_at : Good 2 2 (c_Net_host_at) (up sp_Net_host_at) := good_up (sim_Net_host_at)

/- link_lot(self): slots self=0 -/
def c_Net_link_lot : WS :=
  (wRet (wOp opSub (wOp opShl (wCst (.int 1)) (wBlt lenC (wCons (wFld [Str.ofString "Net"] (Str.ofString "links") (wVar 0)) wNil))) (wCst (.int 1))))
def v_Net_link_lot : VS :=
  (vRet (vOp oSub (vOp oShl (vCst (np 1)) (vBlt cLen (vCons (vFld [Str.ofString "Net"] (Str.ofString "links") (vVar 0)) vNil))) (vCst (np 1))))
theorem sim_Net_link_lot : SimS (c_Net_link_lot) (v_Net_link_lot) := by
  unfold c_Net_link_lot v_Net_link_lot
  exact (sim_ret (sim_op sim_sub (sim_op sim_shl (sim_int 1) (sim_blt sim_len (sim_cons (sim_fld (sim_var 0)) sim_nil))) (sim_int 1)))
def sp_Net_link_lot : VSpec := wpOf 1 (v_Net_link_lot)
theorem run_Net_link_lot {u0 : V'} {Q : V' → List P → Prop} : sp_Net_link_lot [u0] Q = v_Net_link_lot (kvOf [u0] Q) [some u0] := rfl
theorem good_Net_link_lot : Good 1 1 (c_Net_link_lot) (up sp_Net_link_lot) := good_up (sim_Net_link_lot)

/- form(self): slots self=0 -/
def c_Net_form : WS :=
  (wRet (wTup (wCons (wFld [Str.ofString "Net"] (Str.ofString "data") (wVar 0)) (wCons (wFld [Str.ofString "Net"] (Str.ofString "marks") (wVar 0)) (wCons (wFld [Str.ofString "Net"] (Str.ofString "switches") (wVar 0)) (wCons (wFld [Str.ofString "Net"] (Str.ofString "rooms") (wVar 0)) (wCons (wFld [Str.ofString "Net"] (Str.ofString "kinds") (wVar 0)) (wCons (wFld [Str.ofString "Net"] (Str.ofString "links") (wVar 0)) (wCons (wFld [Str.ofString "Net"] (Str.ofString "link_rooms") (wVar 0)) (wCons (wFld [Str.ofString "Net"] (Str.ofString "hosts") (wVar 0)) (wCons (wFld [Str.ofString "Net"] (Str.ofString "homes") (wVar 0)) (wCons (wFld [Str.ofString "Net"] (Str.ofString "tenants") (wVar 0)) (wCons (wFld [Str.ofString "Net"] (Str.ofString "relays") (wVar 0)) wNil)))))))))))))
def v_Net_form : VS :=
  (vRet (vTup (vCons (vFld [Str.ofString "Net"] (Str.ofString "data") (vVar 0)) (vCons (vFld [Str.ofString "Net"] (Str.ofString "marks") (vVar 0)) (vCons (vFld [Str.ofString "Net"] (Str.ofString "switches") (vVar 0)) (vCons (vFld [Str.ofString "Net"] (Str.ofString "rooms") (vVar 0)) (vCons (vFld [Str.ofString "Net"] (Str.ofString "kinds") (vVar 0)) (vCons (vFld [Str.ofString "Net"] (Str.ofString "links") (vVar 0)) (vCons (vFld [Str.ofString "Net"] (Str.ofString "link_rooms") (vVar 0)) (vCons (vFld [Str.ofString "Net"] (Str.ofString "hosts") (vVar 0)) (vCons (vFld [Str.ofString "Net"] (Str.ofString "homes") (vVar 0)) (vCons (vFld [Str.ofString "Net"] (Str.ofString "tenants") (vVar 0)) (vCons (vFld [Str.ofString "Net"] (Str.ofString "relays") (vVar 0)) vNil)))))))))))))
theorem sim_Net_form : SimS (c_Net_form) (v_Net_form) := by
  unfold c_Net_form v_Net_form
  exact (sim_ret (sim_tup (sim_cons (sim_fld (sim_var 0)) (sim_cons (sim_fld (sim_var 0)) (sim_cons (sim_fld (sim_var 0)) (sim_cons (sim_fld (sim_var 0)) (sim_cons (sim_fld (sim_var 0)) (sim_cons (sim_fld (sim_var 0)) (sim_cons (sim_fld (sim_var 0)) (sim_cons (sim_fld (sim_var 0)) (sim_cons (sim_fld (sim_var 0)) (sim_cons (sim_fld (sim_var 0)) (sim_cons (sim_fld (sim_var 0)) sim_nil)))))))))))))
def sp_Net_form : VSpec := wpOf 1 (v_Net_form)
theorem run_Net_form {u0 : V'} {Q : V' → List P → Prop} : sp_Net_form [u0] Q = v_Net_form (kvOf [u0] Q) [some u0] := rfl
theorem good_Net_form : Good 1 1 (c_Net_form) (up sp_Net_form) := good_up (sim_Net_form)


end WW


set_option Elab.async false
set_option linter.all false
set_option maxRecDepth 100000
set_option maxHeartbeats 4000000
set_option autoImplicit false
namespace WW
open PySem PySem.Spec PyProof.Rows L2

/-! ### running over values: own classes -/
section
variable {X : XV} {E : VEnv} {Q : Hd → VEnv → Prop} {kv : KV} {j : Nat} {a : VE} {r : VA} {cs : List Str} {f c m : Str} {cv : List Cv} {sp : VSpec} {hs : List Hd} {b : VE}
theorem av_fld : vFld cs f a X E Q = a X E (hold fun h E1 => gv (rd E1 h) (hold fun x => fldP cs f x (hold fun y => Q (.v (.p y)) E1))) := (rfl)
theorem av_fset : vFSet cs j f a kv E = a kv.ex E (hold fun hv E1 => gv (lk E1 j) (hold fun _ => gv (take1 E1 hv) (hold fun t => gv (lk t.2 j) (hold fun w => fsetP cs f t.1 w (hold fun w' => kv.nx (pt t.2 j (some w'))))))) := (rfl)
theorem av_mth : vMth c m cv sp a r X E Q = a X E (hold fun h E1 => gv (rd E1 h) (hold fun x => mthP c m x ∧ r X E1 (hold fun hs E2 => callV cv sp (h :: hs) E2 Q))) := (rfl)
theorem av_callV : callV cv sp hs E Q = (ioOk cv hs = true ∧ gv (takeL E (tks cv hs)) (hold fun t => gv (cvt t.2 cv hs t.1) (hold fun us => sp us (hold fun v ys => Q (.v v) (putIO t.2 (ioSl cv hs) ys))))) := (rfl)
theorem av_mak : vMak c cv sp r X E Q = r X E (hold fun hs E1 => ioOk cv hs = true ∧ gv (takeL E1 (tks cv hs)) (hold fun t => gv (cvt t.2 cv hs t.1) (hold fun us => makV sp c us (hold fun y ys => Q (.v (.o y)) (putIO t.2 (ioSl cv hs) ys))))) := (rfl)
end
/-- isinstance, a type of Python's own -/
def tyP : P → Option Ty
  | .non => some .non
  | .bl _ => some .bl
  | .int _ => some .int
  | .str _ => some .str
  | .tup _ => some .tup
  | .lst _ => some .lst
  | .dct 0 _ => some .dct
  | .dct 1 _ => some .dct
  | _ => none
def isiP (T : Ty) (x : P) (Q : Bool → Prop) : Prop := (tyP x).elim False fun t => Q (isiB t T)
theorem av_isi {T : Ty} {a : VE} {X : XV} {E : VEnv} {Q : Hd → VEnv → Prop} : vIsi T a X E Q = a X E (hold fun h E1 => gv (rd E1 h) (hold fun x => isiP T x (hold fun b => Q (.v (.p (.bl b))) E1))) := by
  rfl
theorem isi_non {T : Ty} {Q : Bool → Prop} : isiP T .non Q = Q (isiB .non T) := (rfl)
theorem isi_bl {T : Ty} {b : Bool} {Q : Bool → Prop} : isiP T (.bl b) Q = Q (isiB .bl T) := (rfl)
theorem isi_int {T : Ty} {i : Int} {Q : Bool → Prop} : isiP T (.int i) Q = Q (isiB .int T) := (rfl)
theorem isi_str {T : Ty} {s : Str} {Q : Bool → Prop} : isiP T (.str s) Q = Q (isiB .str T) := (rfl)
theorem isi_tup {T : Ty} {xs : List P} {Q : Bool → Prop} : isiP T (.tup xs) Q = Q (isiB .tup T) := (rfl)
theorem isi_lst {T : Ty} {xs : List P} {Q : Bool → Prop} : isiP T (.lst xs) Q = Q (isiB .lst T) := (rfl)
theorem sz_le' {n : Nat} (h : n ≤ 1000000) : (n ≤ sizeLine) = True := eq_true (sz_le h)
theorem sz_lt' {n : Nat} (h : n ≤ 1000000) : (n < sizeLine) = True := eq_true (sz_lt h)
theorem nn_lst {xs : List P} : isNonP (.lst xs) = false := (rfl)
theorem nn_bl {b : Bool} : isNonP (.bl b) = false := (rfl)
theorem nn_obj {c : Str} {fs : List (Str × P)} : isNonP (.obj c fs) = false := (rfl)
theorem nn_dct {t : Nat} {fs : List (P × P)} : isNonP (.dct t fs) = false := (rfl)
theorem fld_lit {cs : List Str} {c f : Str} {y : P} {fs : List (Str × P)} {Q : P → Prop} (hc : c ∈ cs) (h : fs.lookup f = some y) : fldP cs f (.obj c fs) Q = Q y := by
  have e : objP cs (.obj c fs) = some (c, fs) := if_pos hc
  unfold fldP
  rw [e]
  show gv (fs.lookup f) Q = Q y
  rw [h]
  rfl
/-- a new field -/
theorem putFA_new {f : Str} {y : P} : ∀ {fs : List (Str × P)}, fs.all (fun g => !decide (g.1 = f)) = true → putFA f y fs = fs ++ [(f, y)]
  | [], _ => rfl
  | (g, x) :: r, h => by
    rw [List.all_cons, Bool.and_eq_true_iff] at h
    obtain ⟨h1, h2⟩ := h
    unfold putFA
    have : ¬ g = f := by
      intro e
      rw [decide_eq_true e] at h1
      cases h1
    rw [if_neg this, putFA_new h2]
    rfl
theorem fset_new {cs : List Str} {c f : Str} {y : P} {fs : List (Str × P)} {Q : V' → Prop} (hc : c ∈ cs) (hl : fs.length < 900) (h : fs.all (fun g => !decide (g.1 = f)) = true) (q : Q (.io (.obj c (fs ++ [(f, y)])))) : fsetP cs f y (.io (.obj c fs)) Q := by
  refine ⟨rfl, gv_iff.mpr ⟨(c, fs), if_pos hc, hl, ?_⟩⟩
  show Q (.io (.obj c (putFA f y fs)))
  rw [putFA_new h]
  exact q
end WW


set_option Elab.async false
set_option linter.all false
set_option maxRecDepth 100000
set_option maxHeartbeats 4000000
set_option autoImplicit false
namespace WW
theorem pow13 {w : Nat} (h : w ≤ 13) : 2 ^ w ≤ 8192 := by
  have := Nat.pow_le_pow_right (show 0 < 2 by decide) h
  exact this
theorem ofL_snoc (hs : List Nat) (h : Nat) : ofL (hs ++ [h]) = ofL hs ||| 2 ^ h := by
  apply bit_ext
  intro i
  rw [Nat.testBit_or, ofL_bit, ofL_bit, bit_two_pow, Bool.eq_iff_iff]
  simp only [List.mem_append, List.mem_singleton, Bool.or_eq_true, decide_eq_true_eq]
  constructor
  · rintro (q | q)
    · exact .inl q
    · exact .inr q.symm
  · rintro (q | q)
    · exact .inl q
    · exact .inr q.symm

theorem take_succ {α : Type} {l : List α} {i : Nat} {x : α} (h : l[i]? = some x) : l.take (i + 1) = l.take i ++ [x] := by
  rw [List.take_add_one, h]
  rfl

theorem pow_big {k n : Nat} (h : k ≤ n) (hn : n ≤ 8999) : 2 ^ k ≤ 2 ^ 8999 := Nat.pow_le_pow_right (by decide) (by omega)
theorem lt_big {k n : Nat} (h : k < 2 ^ n) (hn : n ≤ 8999) : k < 2 ^ 8999 := Nat.lt_of_lt_of_le h (Nat.pow_le_pow_right (by decide) hn)

theorem draw_lt {r m : Nat} (h1 : 2 ≤ m → r < m) (h2 : m < 2 → r = 0) (h0 : 1 ≤ m) : r < m := by
  by_cases h : 2 ≤ m
  · exact h1 h
  · rw [h2 (by omega)]; exact h0
theorem and_and (a b : Nat) : (a &&& b) &&& b = a &&& b := by
  rw [Nat.and_assoc, Nat.and_self]

/-- ascending lists of headers that a comprehension over range(2^w) makes -/
def Asc (hs : List Nat) (k : Nat) : Prop := hs.Pairwise (· < ·) ∧ ∀ h ∈ hs, h < k
theorem Asc.nil (k : Nat) : Asc [] k := ⟨List.Pairwise.nil, fun _ h => nomatch h⟩
theorem Asc.snoc {hs : List Nat} {k : Nat} (h : Asc hs k) : Asc (hs ++ [k]) (k + 1) := by
  refine ⟨List.pairwise_append.mpr ⟨h.1, by simp, fun a ha b hb => ?_⟩, fun x hx => ?_⟩
  · rw [List.mem_singleton] at hb
    subst hb
    exact h.2 a ha
  · rcases List.mem_append.mp hx with q | q
    · exact Nat.lt_succ_of_lt (h.2 x q)
    · rw [List.mem_singleton] at q
      omega
theorem Asc.up {hs : List Nat} {k : Nat} (h : Asc hs k) : Asc hs (k + 1) := ⟨h.1, fun x hx => Nat.lt_succ_of_lt (h.2 x hx)⟩
theorem Asc.len {hs : List Nat} {k : Nat} (h : Asc hs k) : hs.length ≤ k := by
  have e : hdrs k (ofL hs) = hs := hdrs_ofL h.1 h.2
  rw [← e]
  exact hdrs_len_le _ _
theorem cube_list {c v w : Nat} (hc : c < 2 ^ w) (hv : v &&& c = v) : lotN c v w = ofL ((List.range (2 ^ w)).filter fun h => decide (h &&& c = v)) := bit_ext fun i => by
  rw [lot_bit hc hv, ofL_bit, Bool.eq_iff_iff]
  simp only [Bool.and_eq_true, decide_eq_true_eq, List.mem_filter, List.mem_range]
theorem filter_asc (k : Nat) (p : Nat → Bool) : Asc ((List.range k).filter p) k :=
  ⟨List.Pairwise.filter _ List.pairwise_lt_range, fun h hm => List.mem_range.mp (List.mem_filter.mp hm).1⟩
theorem filter_snoc (k : Nat) (p : Nat → Bool) : (List.range (k + 1)).filter p = (List.range k).filter p ++ if p k = true then [k] else [] := by
  rw [List.range_succ, List.filter_append]
  congr 1
  by_cases h : p k = true
  · simp [h]
  · simp [h]
theorem one_lot {h w : Nat} (hh : h < 2 ^ w) : lotN (2 ^ w - 1) h w = 2 ^ h := by
  have hm : h &&& (2 ^ w - 1) = h := by rw [Nat.and_two_pow_sub_one_eq_mod, Nat.mod_eq_of_lt hh]
  apply bit_ext
  intro i
  have hp := Nat.two_pow_pos w
  rw [lot_bit (by omega) hm, bit_two_pow, Bool.eq_iff_iff]
  simp only [Bool.and_eq_true, decide_eq_true_eq]
  constructor
  · rintro ⟨a, b⟩
    rw [Nat.and_two_pow_sub_one_eq_mod, Nat.mod_eq_of_lt a] at b
    exact b.symm
  · rintro rfl
    exact ⟨hh, hm⟩
theorem all_as_lot (w : Nat) : lotN 0 0 w = allN w := bit_ext fun i => by
  rw [lot_bit (Nat.two_pow_pos w) rfl, all_bit]
  simp
theorem count_all (w : Nat) : (hdrs (2 ^ w) (allN w)).length = 2 ^ w := by
  unfold hdrs
  rw [List.filter_eq_self.mpr fun a ha => by rw [all_bit]; exact decide_eq_true (List.mem_range.mp ha), List.length_range]

theorem map_inj' {α β : Type} {f : α → β} (h : ∀ x y, f x = f y → x = y) : ∀ {a b : List α}, a.map f = b.map f ↔ a = b
  | [], [] => by simp
  | [], _ :: _ => by simp
  | _ :: _, [] => by simp
  | x :: a, y :: b => by
    rw [List.map_cons, List.map_cons, List.cons.injEq, List.cons.injEq, map_inj' h]
    exact ⟨fun ⟨p, q⟩ => ⟨h _ _ p, q⟩, fun ⟨p, q⟩ => ⟨by rw [p], q⟩⟩
end WW


set_option Elab.async false
set_option linter.all false
set_option maxRecDepth 100000
set_option maxHeartbeats 4000000
set_option autoImplicit false
namespace WW
open PySem PySem.Spec PyProof.Rows L2
local macro_rules | `(tactic| walk_at "v") => `(tactic| try simp -dsimp (disch := first | omega | (simp only [List.length_cons, List.length_nil]; omega)) only [↓av_var, ↓av_cst, ↓av_op, ↓av_neg, ↓av_notV, ↓av_andV, ↓av_orV, ↓av_chain, ↓av_if, ↓av_nil, ↓av_cons, ↓av_tup, ↓av_lst, ↓av_noP, ↓av_part, ↓av_slc, ↓av_bits, ↓av_tst, ↓av_tsB, ↓av_notB, ↓av_andB, ↓av_orB, ↓av_yes, ↓av_blt, ↓av_sset, ↓av_lstR, ↓av_tupR, ↓av_metR, ↓av_mut, ↓av_get, ↓av_srtK, ↓av_lc, ↓av_call, ↓av_seqI, ↓av_enum, ↓av_rng, ↓av_asg, ↓av_asgP, ↓av_set, ↓av_drop, ↓av_ret, ↓av_retN, ↓av_brk, ↓av_cnt, ↓av_pas, ↓av_sq, ↓av_ifS, ↓av_for, ↓av_forN, ↓av_forD, un_d, d_0, d_1, g_1, g_2, st_dct, ixv_dct, ↓hold1, ↓cnd_t, ↓cnd_f, cnd_pos, cnd_neg, ↓rd_slot, ↓rd_v, rds, val_p, val_b, val_o, val_io, own_o, own_io, re_o, re_io, mp_some, ↓src_v, ↓src_s, un_none, lock_none, ↓unK_none, ↓unK_some, lock_some, un_some, ↓asg_s, ↓asg_v', ↓ret_v, ↓ret_s, ↓kv_nx, ↓kv_rt, kL_nx, kL_ct, kL_bk, kL_rt, kL_ex, kS_nx, kS_ct, kS_bk, kS_rt, kS_ex, ↓kU_nx, ↓kU_ct, ↓kU_bk, ↓kU_rt, ↓kD_nx, ↓kD_ct, ↓kD_bk, kD_ex, ↓gv_some, ↓o_add, ↓o_sub, ↓o_and, ↓o_or, ↓o_xor, ↓o_shl1, ↓o_shr, ↓o_mod, ↓o_mulS, ↓o_divS, ↓o_lt, ↓o_le, ↓o_gt, ↓o_ge, ↓o_eq, ↓o_ne, ↓o_is, ↓o_isnot, nn_int, nn_non, nn_tup, nn_str, ↓t_bl, ↓t_np, ↓t_tup, ↓t_lst, ↓b_bl, ↓i_int, ↓i_np, ↓i_np2, ↓c_int1, ↓c_len1, ↓c_len2, ↓c_tup1, ↓c_tup2, ↓c_lst1, ↓c_lst2, ↓c_lst3, ↓c_str1, ↓sl_tup, ↓sl_lst, ↓sl_fro, ↓a_lst, ↓a_tup, ↓a_str, ↓m_app', is_lst, is_tup, is_tupL, ba_tup, ba_lst, it_tup, it_lst, ↓ix_tup, ↓ix_lst, st_lst, lk, pt, take1, takeL, tks, ioSl, ioOk, ioOk1, clash, cvt, putIO, outs, bor, bindVP, bindVL, pasAll, pasB, wipeV, restV, Option.map_some, Option.map_none, List.all_cons, List.all_nil, Bool.and_true, Bool.true_and, Bool.not_true, Bool.not_false, Bool.false_and, Bool.and_false, true_and, and_true, reduceIte, decide_true, decide_false, List.map_cons, List.map_nil, List.length_cons, List.length_nil, List.cons_append, List.nil_append, List.append_nil, List.replicate, List.getElem?_cons_zero, List.getElem?_cons_succ, List.set_cons_zero, List.set_cons_succ, Nat.reduceBEq, Nat.reduceSub, Nat.reduceAdd, Nat.reduceMul, Bool.not_not])
local macro_rules | `(tactic| walk_at "vh") => `(tactic| try simp -dsimp (disch := first | omega | (simp only [List.length_cons, List.length_nil]; omega)) only [↓av_var, ↓av_cst, ↓av_op, ↓av_neg, ↓av_notV, ↓av_andV, ↓av_orV, ↓av_chain, ↓av_if, ↓av_nil, ↓av_cons, ↓av_tup, ↓av_lst, ↓av_noP, ↓av_part, ↓av_slc, ↓av_bits, ↓av_tst, ↓av_tsB, ↓av_notB, ↓av_andB, ↓av_orB, ↓av_yes, ↓av_blt, ↓av_sset, ↓av_lstR, ↓av_tupR, ↓av_metR, ↓av_mut, ↓av_get, ↓av_srtK, ↓av_lc, ↓av_call, ↓av_seqI, ↓av_enum, ↓av_rng, ↓av_asg, ↓av_asgP, ↓av_set, ↓av_drop, ↓av_ret, ↓av_retN, ↓av_brk, ↓av_cnt, ↓av_pas, ↓av_sq, ↓av_ifS, ↓av_for, ↓av_forN, ↓av_forD, un_d, d_0, d_1, g_1, g_2, st_dct, ixv_dct, ↓hold1, ↓cnd_t, ↓cnd_f, cnd_pos, cnd_neg, ↓rd_slot, ↓rd_v, rds, val_p, val_b, val_o, val_io, own_o, own_io, re_o, re_io, mp_some, ↓src_v, ↓src_s, un_none, lock_none, ↓unK_none, ↓unK_some, lock_some, un_some, ↓asg_s, ↓asg_v', ↓ret_v, ↓ret_s, ↓kv_nx, ↓kv_rt, kL_nx, kL_ct, kL_bk, kL_rt, kL_ex, kS_nx, kS_ct, kS_bk, kS_rt, kS_ex, ↓kU_nx, ↓kU_ct, ↓kU_bk, ↓kU_rt, ↓kD_nx, ↓kD_ct, ↓kD_bk, kD_ex, ↓gv_some, ↓o_add, ↓o_sub, ↓o_and, ↓o_or, ↓o_xor, ↓o_shl1, ↓o_shr, ↓o_mod, ↓o_mulS, ↓o_divS, ↓o_lt, ↓o_le, ↓o_gt, ↓o_ge, ↓o_eq, ↓o_ne, ↓o_is, ↓o_isnot, nn_int, nn_non, nn_tup, nn_str, ↓t_bl, ↓t_np, ↓t_tup, ↓t_lst, ↓b_bl, ↓i_int, ↓i_np, ↓i_np2, ↓c_int1, ↓c_len1, ↓c_len2, ↓c_tup1, ↓c_tup2, ↓c_lst1, ↓c_lst2, ↓c_lst3, ↓c_str1, ↓sl_tup, ↓sl_lst, ↓sl_fro, ↓a_lst, ↓a_tup, ↓a_str, ↓m_app', is_lst, is_tup, is_tupL, ba_tup, ba_lst, it_tup, it_lst, ↓ix_tup, ↓ix_lst, st_lst, lk, pt, take1, takeL, tks, ioSl, ioOk, ioOk1, clash, cvt, putIO, outs, bor, bindVP, bindVL, pasAll, pasB, wipeV, restV, Option.map_some, Option.map_none, List.all_cons, List.all_nil, Bool.and_true, Bool.true_and, Bool.not_true, Bool.not_false, Bool.false_and, Bool.and_false, true_and, and_true, reduceIte, decide_true, decide_false, List.map_cons, List.map_nil, List.length_cons, List.length_nil, List.cons_append, List.nil_append, List.append_nil, List.replicate, List.getElem?_cons_zero, List.getElem?_cons_succ, List.set_cons_zero, List.set_cons_succ, Nat.reduceBEq, Nat.reduceSub, Nat.reduceAdd, Nat.reduceMul, Bool.not_not, *])
/-! ### the law's own draws -/
def Dr (x : P) : Prop := ∃ (a b c e : Nat) (cs : List Int), x = .lst [np a, np b, np c, np e, .lst (cs.map .int)] ∧ a < 2147483647
theorem law_begin {ns : List Int} {Q : V' → List P → Prop} (q : ∀ x, Dr x → Q (.o x) []) : sp_law_begin [.p (.fro (ns.map .int))] Q := by
  rw [run_law_begin]; unfold v_law_begin
  walk_at "v"
  refine ⟨by decide, q _ ⟨0, 0, 0, 0, (ns.drop (HT.sIx (ns.map P.int).length 0 none)).take (HT.sIx (ns.map P.int).length (ns.map P.int).length (some 63) - HT.sIx (ns.map P.int).length 0 none), ?_, by decide⟩⟩
  have e : cutP (ns.map P.int) none (some 63) = ((ns.drop (HT.sIx (ns.map P.int).length 0 none)).take (HT.sIx (ns.map P.int).length (ns.map P.int).length (some 63) - HT.sIx (ns.map P.int).length 0 none)).map P.int := by
    unfold cutP
    rw [List.map_take, List.map_drop]
  rw [← e]
  rfl
def DrE (a b c e : Nat) (cs : List Int) (many : Nat) (x y z w : Option V') : VEnv := [some (.io (.lst [np a, np b, np c, np e, .lst (cs.map .int)])), some (.p (np many)), x, y, z, w]
theorem law_draw {x : P} {many : Nat} {Q : V' → List P → Prop} (hD : Dr x) (hm : many < 2 ^ 8999) (q : ∀ r x', (2 ≤ many → r < many) → (many < 2 → r = 0) → Dr x' → Q (.p (np r)) [x']) : sp_law_draw [.io x, .p (np many)] Q := by
  obtain ⟨a, b, c, e, cs, rfl, ha⟩ := hD
  rw [run_law_draw]; unfold v_law_draw
  walk_at "v"
  refine cnd_by (fun h => ?_) (fun h => ?_)
  · walk_at "v"
    exact q _ _ (fun _ => by omega) (fun _ => rfl) ⟨a, b, c, e, cs, rfl, ha⟩
  rw [av_pas, kS_nx]
  refine sqV (fun E => ∃ a b c e x y, a < 2147483647 ∧ E = DrE a b c e cs many x y none none) (fun N hN => ?_) (fun E hI => ?_)
  · walk_at "v"
    refine cnd_by (fun hb => ?_) (fun hb => ?_)
    · walk_at "v"
      rw [List.length_map]
      refine cnd_by (fun hc => ?_) (fun hc => ?_)
      · walk_at "v"
        rw [List.getElem?_map, List.getElem?_eq_getElem hc]
        walk_at "v"
        have fin : ∀ (m : Nat) x, (vIfS (vTsB (vOp oGe (vVar 3) (vOp oPow (vCst (np 10)) (vCst (np 18))))) (vSet 0 (vCst (np 1)) (vVar 3))
            (vSet 0 (vCst (np 0)) (vOp oMod (vBlt cInt (vCons (vOp oAdd (vOp oAdd (vOp oMul (vOp oIdx (vVar 0) (vCst (np 0))) (vCst (np 69621))) (vOp oMul (vVar 3) (vCst (np 48271)))) (vCst (np 12345))) vNil)) (vCst (np 2147483647)))))
            ⟨N, (kvOf [V'.io (P.lst [np a, np b, np c, np e, P.lst (List.map P.int cs)]), V'.p (np many)] Q).rt, (kvOf [V'.io (P.lst [np a, np b, np c, np e, P.lst (List.map P.int cs)]), V'.p (np many)] Q).bk, (kvOf [V'.io (P.lst [np a, np b, np c, np e, P.lst (List.map P.int cs)]), V'.p (np many)] Q).ct, (kvOf [V'.io (P.lst [np a, np b, np c, np e, P.lst (List.map P.int cs)]), V'.p (np many)] Q).ex⟩ [some (.io (.lst [np a, np b, np (c + 1), np e, .lst (cs.map .int)])), some (.p (np many)), x, some (.p (np m)), none, none] := fun m x => by
          have hp : ∀ Q : V' → Prop, oPow (np 10) (np 18) Q = Q (.p (np (10 ^ 18))) := fun Q => by
            show (CPow 10 18 ∧ Q _) = _
            rw [eq_true (show CPow 10 18 from ⟨by decide, by decide, by decide⟩), true_and]
            rfl
          walk_at "v"
          rw [hp]
          walk_at "v"
          refine cnd_by (fun hb => ?_) (fun hb => ?_)
          · walk_at "v"
            exact hN _ ⟨_, _, _, _, _, _, ha, rfl⟩
          · walk_at "v"
            refine hN _ ⟨_, _, _, _, _, _, ?_, rfl⟩
            exact Nat.mod_lt _ (by decide)
        by_cases hz : 0 ≤ cs[c]
        · obtain ⟨m, hz⟩ := Int.eq_ofNat_of_zero_le hz
          rw [hz]
          walk_at "v"
          exact fin _ _
        · obtain ⟨m, hm⟩ := Int.eq_ofNat_of_zero_le (show 0 ≤ -cs[c] by omega)
          rw [o_geI, show decide (((0 : Nat) : Int) ≤ cs[c]) = false from decide_eq_false hz]
          walk_at "v"
          rw [hm]
          exact fin _ _
      · walk_at "v"
        exact hN _ ⟨_, _, _, _, _, _, ha, rfl⟩
    · walk_at "v"
      exact hN _ ⟨_, _, _, _, _, _, ha, rfl⟩
  obtain ⟨a, b, c, e, x, y, ha, rfl⟩ := hI
  unfold DrE
  walk_at "v"
  refine cnd_by (fun hb => ?_) (fun hb => ?_)
  · walk_at "v"
    rw [o_div (by omega) hm]
    walk_at "v"
    exact q _ _ (fun _ => Nat.mod_lt _ (by omega)) (fun _ => by omega) ⟨a, _, c, e, cs, rfl, ha⟩
  · walk_at "v"
    have h2 := Nat.mod_lt (a * 48271 + (e + 1) * 7919 + 11) (show 0 < 2147483647 by decide)
    exact q _ _ (fun _ => Nat.mod_lt _ (by omega)) (fun _ => by omega) ⟨_, _, _, _, cs, rfl, h2⟩

/-- an argument that is only read -/
def Rd' (u : V') (x : P) : Prop := u = .p x ∨ u = .b x
theorem law_rare {x : P} {many : Nat} {Q : V' → List P → Prop} (hD : Dr x) (hm : many < 2 ^ 64) (q : ∀ (b : Bool) x', Dr x' → Q (.p (.bl b)) [x']) : sp_law_rare [.io x, .p (np many)] Q := by
  rw [run_law_rare]; unfold v_law_rare
  walk_at "v"
  refine law_draw hD (Nat.lt_of_lt_of_le hm big_pow) fun r x' _ _ hD' => ?_
  walk_at "v"
  exact q _ _ hD'
theorem law_lot {u : V'} {hs : List Nat} {Q : V' → List P → Prop} (hu : Rd' u (.lst (hs.map np))) (hb : ∀ h ∈ hs, h ≤ 8192) (q : Q (.p (np (ofL hs))) []) : sp_law_lot [u] Q := by
  rw [run_law_lot]; unfold v_law_lot
  rcases hu with rfl | rfl
  all_goals
    walk_at "v"
    refine forV (fun d E => ∃ x, E = [some _, some (.p (np (ofL d))), x]) ⟨_, rfl⟩ (fun i d h r E N e hi hI hN => ?_) (fun E hI => ?_)
    · obtain ⟨x, rfl⟩ := hI
      have := hb h (by rw [e]; simp)
      unfold v_law_lot_1
      walk_at "v"
      rw [← ofL_snoc]
      exact hN _ ⟨_, rfl⟩
    · obtain ⟨x, rfl⟩ := hI
      walk_at "v"
      exact q
theorem law_cube {x : P} {bits : Nat} {Q : V' → List P → Prop} (hD : Dr x) (hb : bits ≤ 13) (q : ∀ c v x', c < 2 ^ bits → v &&& c = v → Dr x' → Q (.p (.tup [np c, np v])) [x']) : sp_law_cube [.io x, .p (np bits)] Q := by
  rw [run_law_cube]; unfold v_law_cube
  have hl : 2 ^ bits < 2 ^ 8999 := Nat.pow_lt_pow_right (by decide) (by omega)
  walk_at "v"
  refine law_draw hD hl fun c x' h1 h2 hD' => ?_
  walk_at "v"
  refine law_draw hD' hl fun v x' g1 g2 hD' => ?_
  walk_at "v"
  exact ⟨by decide, q _ _ _ (draw_lt h1 h2 (Nat.two_pow_pos _)) (and_and v c) hD'⟩
theorem law_pickL {x : P} {u : V'} {xs : List P} {Q : V' → List P → Prop} (hD : Dr x) (hu : Rd' u (.lst xs)) (h1 : 0 < xs.length) (h2 : xs.length < 2 ^ 64) (q : ∀ (y : P) x', y ∈ xs → Dr x' → Q (.p y) [x']) : sp_law_pick [.io x, u] Q := by
  rw [run_law_pick]; unfold v_law_pick
  rcases hu with rfl | rfl
  all_goals
    walk_at "v"
    refine law_draw hD (Nat.lt_of_lt_of_le h2 big_pow) fun r x' h3 h4 hD' => ?_
    have hr := draw_lt h3 h4 h1
    walk_at "v"
    rw [List.getElem?_eq_getElem hr]
    walk_at "v"
    exact q _ _ (List.getElem_mem hr) hD'
end WW


set_option Elab.async false
set_option linter.all false
set_option maxRecDepth 100000
set_option maxHeartbeats 4000000
set_option autoImplicit false
namespace WW
/-! ### lots widened, narrowed, parted -/
def widN (l d k : Nat) : Nat := mk (2 ^ (d + k)) fun h => l.testBit (h % 2 ^ d)
theorem wid_bit (l d k h : Nat) : (widN l d k).testBit h = (decide (h < 2 ^ (d + k)) && l.testBit (h % 2 ^ d)) := mk_bit ..
theorem wid_zero {l d : Nat} (hl : l < 2 ^ 2 ^ d) : widN l d 0 = l := bit_ext fun h => by
  rw [wid_bit]
  by_cases hh : h < 2 ^ (d + 0)
  · rw [decide_eq_true hh, Nat.mod_eq_of_lt (show h < 2 ^ d from hh), Bool.true_and]
  · rw [decide_eq_false hh, Bool.false_and, bit_lt hl (by simpa using Nat.le_of_not_lt hh)]
theorem wid_succ (l d k : Nat) : widN l d k ||| widN l d k * 2 ^ 2 ^ (d + k) = widN l d (k + 1) := bit_ext fun h => by
  rw [Nat.testBit_or, Nat.testBit_mul_two_pow, wid_bit, wid_bit, wid_bit]
  have e : 2 ^ (d + (k + 1)) = 2 ^ (d + k) + 2 ^ (d + k) := by rw [← Nat.add_assoc, Nat.pow_succ]; omega
  by_cases h1 : h < 2 ^ (d + k)
  · have h2 : h < 2 ^ (d + (k + 1)) := by omega
    have h3 : ¬ (2 ^ (d + k) ≤ h) := by omega
    simp [h1, h2, h3]
  · have h3 : 2 ^ (d + k) ≤ h := by omega
    have em : (h - 2 ^ (d + k)) % 2 ^ d = h % 2 ^ d := by
      have e2 : 2 ^ (d + k) = 2 ^ d * 2 ^ k := Nat.pow_add 2 d k
      have : h = (h - 2 ^ (d + k)) + 2 ^ d * 2 ^ k := by omega
      conv => rhs; rw [this]
      rw [Nat.add_mul_mod_self_left]
    by_cases h2 : h < 2 ^ (d + (k + 1))
    · have h4 : h - 2 ^ (d + k) < 2 ^ (d + k) := by omega
      simp [h1, h2, h3, h4, em]
    · have h4 : ¬ (h - 2 ^ (d + k) < 2 ^ (d + k)) := by omega
      simp [h1, h2, h4]
/-- the data of the headers, the k highest of m marks looked at -/
def narN (l d m k : Nat) : Nat := mk (2 ^ (d + (m - k))) fun h => (List.range (2 ^ k)).any fun j => l.testBit (h + j * 2 ^ (d + (m - k)))
theorem nar_bit (l d m k h : Nat) : (narN l d m k).testBit h = (decide (h < 2 ^ (d + (m - k))) && (List.range (2 ^ k)).any fun j => l.testBit (h + j * 2 ^ (d + (m - k)))) := mk_bit ..
theorem nar_zero {l d m : Nat} (hl : l < 2 ^ 2 ^ (d + m)) : narN l d m 0 = l := bit_ext fun h => by
  rw [nar_bit]
  by_cases hh : h < 2 ^ (d + (m - 0))
  · rw [decide_eq_true hh]; simp
  · rw [decide_eq_false hh, Bool.false_and, bit_lt hl (by simpa using Nat.le_of_not_lt hh)]
theorem nar_succ {l d m k : Nat} (hk : k < m) : (narN l d m k &&& (2 ^ 2 ^ (d + m - 1 - k) - 1)) ||| narN l d m k >>> 2 ^ (d + m - 1 - k) = narN l d m (k + 1) := bit_ext fun h => by
  have e0 : d + m - 1 - k = d + (m - (k + 1)) := by omega
  have e1 : d + (m - k) = d + (m - (k + 1)) + 1 := by omega
  rw [e0, Nat.testBit_or, Nat.testBit_and, Nat.testBit_two_pow_sub_one, Nat.testBit_shiftRight, nar_bit, nar_bit, nar_bit, e1]
  generalize hw : d + (m - (k + 1)) = w
  have e2 : 2 ^ (w + 1) = 2 ^ w + 2 ^ w := by rw [Nat.pow_succ]; omega
  have e3 : ∀ j, j * 2 ^ (w + 1) = 2 * (j * 2 ^ w) := fun j => by rw [Nat.pow_succ, Nat.mul_comm (2 ^ w) 2, ← Nat.mul_assoc, Nat.mul_comm j 2, Nat.mul_assoc]
  have e4 : ∀ j, 2 * j * 2 ^ w = 2 * (j * 2 ^ w) := fun j => Nat.mul_assoc ..
  have e5 : ∀ j, (2 * j + 1) * 2 ^ w = 2 * (j * 2 ^ w) + 2 ^ w := fun j => by rw [Nat.add_mul, Nat.mul_assoc, Nat.one_mul]
  rw [Bool.eq_iff_iff]
  simp only [Bool.or_eq_true, Bool.and_eq_true, decide_eq_true_eq, List.any_eq_true, List.mem_range]
  constructor
  · rintro (⟨⟨h1, j, hj, hb⟩, h2⟩ | ⟨h1, j, hj, hb⟩)
    · refine ⟨h2, 2 * j, by rw [Nat.pow_succ]; omega, ?_⟩
      rw [show h + 2 * j * 2 ^ w = h + j * 2 ^ (w + 1) by rw [e3, e4]]
      exact hb
    · refine ⟨by omega, 2 * j + 1, by rw [Nat.pow_succ]; omega, ?_⟩
      rw [show h + (2 * j + 1) * 2 ^ w = 2 ^ w + h + j * 2 ^ (w + 1) by rw [e3, e5]; omega]
      exact hb
  · rintro ⟨h2, j, hj, hb⟩
    rw [Nat.pow_succ] at hj
    rcases Nat.mod_two_eq_zero_or_one j with hm | hm
    · left
      refine ⟨⟨by omega, j / 2, by omega, ?_⟩, h2⟩
      have : j = 2 * (j / 2) := by omega
      rw [this] at hb
      rw [show h + j / 2 * 2 ^ (w + 1) = h + 2 * (j / 2) * 2 ^ w by rw [e3, e4]]
      exact hb
    · right
      refine ⟨by omega, j / 2, by omega, ?_⟩
      have : j = 2 * (j / 2) + 1 := by omega
      rw [this] at hb
      rw [show 2 ^ w + h + j / 2 * 2 ^ (w + 1) = h + (2 * (j / 2) + 1) * 2 ^ w by rw [e3, e5]; omega]
      exact hb
theorem nar_end {l d m : Nat} (h : Nat) (hl : l < 2 ^ 2 ^ (d + m)) : (narN l d m m).testBit h = true ↔ ∃ g, l.testBit g = true ∧ g % 2 ^ d = h := by
  rw [nar_bit, Nat.sub_self, Nat.add_zero]
  simp only [Bool.and_eq_true, decide_eq_true_eq, List.any_eq_true, List.mem_range]
  constructor
  · rintro ⟨h1, j, hj, hb⟩
    exact ⟨_, hb, by rw [Nat.add_mul_mod_self_right, Nat.mod_eq_of_lt h1]⟩
  · rintro ⟨g, hb, rfl⟩
    have hp := Nat.two_pow_pos d
    refine ⟨Nat.mod_lt _ hp, g / 2 ^ d, ?_, by rw [Nat.mul_comm, Nat.mod_add_div]; exact hb⟩
    have hg : g < 2 ^ (d + m) := by
      apply Nat.lt_of_not_le
      intro z
      rw [bit_lt hl z] at hb
      cases hb
    rw [Nat.div_lt_iff_lt_mul hp, ← Nat.pow_add, Nat.add_comm]
    exact hg
/-- parts, cut by one more lot -/
def cutL (lot : Nat) (ps : List Nat) : List Nat := ps.flatMap fun p => (if p &&& lot = 0 then [] else [p &&& lot]) ++ (if p - (p &&& lot) = 0 then [] else [p - (p &&& lot)])
def partL (w : Nat) : List Nat → List Nat
  | [] => [allN w]
  | l :: r => cutL l (partL w r)
def sgn (Ls : List Nat) (h : Nat) : List Bool := Ls.map fun l => l.testBit h
structure PartOk (w : Nat) (s : Nat → List Bool) (ps : List Nat) : Prop where
  nz : ∀ p ∈ ps, p ≠ 0
  cls : ∀ p ∈ ps, ∀ h, p.testBit h = true → ∀ g, p.testBit g = true ↔ g < 2 ^ w ∧ s g = s h
  all : ∀ h, h < 2 ^ w → ∃ p ∈ ps, p.testBit h = true
  nd : ps.Nodup
theorem nz_bit {p : Nat} (h : p ≠ 0) : ∃ i, p.testBit i = true := Nat.exists_testBit_of_ne_zero h
theorem sub_bit (p l i : Nat) : (p - (p &&& l)).testBit i = (p.testBit i && !l.testBit i) := by
  have := (bit_sub (a := p) (b := p &&& l) fun i e => by rw [Nat.testBit_and] at e; exact (Bool.and_eq_true_iff.mp e).1).2 i
  rw [this, Nat.testBit_and]
  cases p.testBit i <;> cases l.testBit i <;> rfl
theorem mem_cut {l q : Nat} {ps : List Nat} : q ∈ cutL l ps ↔ ∃ p ∈ ps, q ≠ 0 ∧ (q = p &&& l ∨ q = p - (p &&& l)) := by
  unfold cutL
  rw [List.mem_flatMap]
  constructor
  · rintro ⟨p, hp, h⟩
    rcases List.mem_append.mp h with h | h
    · split at h
      · cases h
      · rw [List.mem_singleton] at h; subst h; exact ⟨p, hp, by assumption, .inl rfl⟩
    · split at h
      · cases h
      · rw [List.mem_singleton] at h; subst h; exact ⟨p, hp, by assumption, .inr rfl⟩
  · rintro ⟨p, hp, h0, rfl | rfl⟩
    · exact ⟨p, hp, List.mem_append.mpr (.inl (by rw [if_neg h0]; simp))⟩
    · exact ⟨p, hp, List.mem_append.mpr (.inr (by rw [if_neg h0]; simp))⟩
theorem cut_ok {w l : Nat} {s : Nat → List Bool} {ps : List Nat} (P : PartOk w s ps) : PartOk w (fun h => l.testBit h :: s h) (cutL l ps) where
  nz := fun q hq => let ⟨_, _, h, _⟩ := mem_cut.mp hq; h
  cls := fun q hq h hh g => by
    obtain ⟨p, hp, h0, e⟩ := mem_cut.mp hq
    have c := P.cls p hp
    rcases e with rfl | rfl
    · rw [Nat.testBit_and, Bool.and_eq_true_iff] at hh ⊢
      rw [c h hh.1 g]
      constructor
      · rintro ⟨⟨a, b⟩, d⟩
        exact ⟨a, by rw [d, hh.2, b]⟩
      · rintro ⟨a, b⟩
        injection b with b1 b2
        exact ⟨⟨a, b2⟩, by rw [b1]; exact hh.2⟩
    · rw [sub_bit, Bool.and_eq_true_iff] at hh ⊢
      rw [c h hh.1 g]
      constructor
      · rintro ⟨⟨a, b⟩, d⟩
        exact ⟨a, by
          have h1 := hh.2
          revert d h1
          rw [b]
          cases l.testBit g <;> cases l.testBit h <;> simp⟩
      · rintro ⟨a, b⟩
        injection b with b1 b2
        exact ⟨⟨a, b2⟩, by rw [b1]; exact hh.2⟩
  all := fun h hh => by
    obtain ⟨p, hp, hb⟩ := P.all h hh
    cases hl : l.testBit h with
    | true =>
      refine ⟨p &&& l, mem_cut.mpr ⟨p, hp, fun z => ?_, .inl rfl⟩, by rw [Nat.testBit_and, hb, hl]; rfl⟩
      have : (p &&& l).testBit h = true := by rw [Nat.testBit_and, hb, hl]; rfl
      rw [z, Nat.zero_testBit] at this
      cases this
    | false =>
      refine ⟨p - (p &&& l), mem_cut.mpr ⟨p, hp, fun z => ?_, .inr rfl⟩, by rw [sub_bit, hb, hl]; rfl⟩
      have : (p - (p &&& l)).testBit h = true := by rw [sub_bit, hb, hl]; rfl
      rw [z, Nat.zero_testBit] at this
      cases this
  nd := by
    unfold cutL
    have dis : ∀ p ∈ ps, ∀ q ∈ ps, ∀ h, p.testBit h = true → q.testBit h = true → p = q := fun p hp q hq h h1 h2 => bit_ext fun g => by
      rw [Bool.eq_iff_iff, P.cls p hp h h1 g, P.cls q hq h h2 g]
    have sub : ∀ p a, a ∈ ((if p &&& l = 0 then [] else [p &&& l]) ++ (if p - (p &&& l) = 0 then [] else [p - (p &&& l)])) → a ≠ 0 ∧ ∀ h, a.testBit h = true → p.testBit h = true := fun p a ha => by
      rcases List.mem_append.mp ha with h | h
      · split at h
        · cases h
        · rw [List.mem_singleton] at h; subst h
          exact ⟨by assumption, fun h hh => by rw [Nat.testBit_and] at hh; exact (Bool.and_eq_true_iff.mp hh).1⟩
      · split at h
        · cases h
        · rw [List.mem_singleton] at h; subst h
          exact ⟨by assumption, fun h hh => by rw [sub_bit] at hh; exact (Bool.and_eq_true_iff.mp hh).1⟩
    refine List.nodup_iff_pairwise_ne.mpr ?_
    rw [List.pairwise_flatMap]
    refine ⟨fun p hp => ?_, ?_⟩
    · split <;> split <;> simp
      rename_i h1 h2
      intro e
      obtain ⟨i, hi⟩ := nz_bit h1
      have : (p - (p &&& l)).testBit i = true := by rw [← e]; exact hi
      rw [sub_bit] at this
      rw [Nat.testBit_and] at hi
      rw [(Bool.and_eq_true_iff.mp hi).2] at this
      simp at this
    · exact List.Pairwise.imp_of_mem (fun {p q} hp hq hne a ha b hb e => by
        subst e
        obtain ⟨n1, s1⟩ := sub p a ha
        obtain ⟨n2, s2⟩ := sub q a hb
        obtain ⟨i, hi⟩ := nz_bit n1
        exact hne (dis p hp q hq i (s1 i hi) (s2 i hi))) (List.nodup_iff_pairwise_ne.mp P.nd)
theorem part_ok (w : Nat) : ∀ Ls : List Nat, PartOk w (sgn Ls) (partL w Ls)
  | [] => {
    nz := fun p hp => by
      rw [show partL w [] = [allN w] from rfl, List.mem_singleton] at hp
      subst hp
      intro z
      have : (allN w).testBit 0 = true := by rw [all_bit]; exact decide_eq_true (Nat.two_pow_pos w)
      rw [z, Nat.zero_testBit] at this
      cases this
    cls := fun p hp h hh g => by
      rw [show partL w [] = [allN w] from rfl, List.mem_singleton] at hp
      subst hp
      rw [all_bit, decide_eq_true_eq]
      exact ⟨fun h => ⟨h, rfl⟩, fun h => h.1⟩
    all := fun h hh => ⟨allN w, by simp [partL], by rw [all_bit]; exact decide_eq_true hh⟩
    nd := by simp [partL] }
  | l :: r => cut_ok (part_ok w r)
end WW


set_option Elab.async false
set_option linter.all false
set_option maxRecDepth 100000
set_option maxHeartbeats 4000000
set_option autoImplicit false
namespace WW
open PySem PySem.Spec PyProof.Rows L2

/-! ### helpers for all laws -/
theorem lst64 {a : Nat} (h : a < 2 ^ 64) : a < 2 ^ 8999 := Nat.lt_of_lt_of_le h big_pow
theorem enum_map {α : Type} (g : α → P) (dflt : α) : ∀ (l : List α) (k : Nat), enumP k (l.map g) = (List.range l.length).map fun i => .tup [np (k + i), g (l.getD i dflt)]
  | [], _ => rfl
  | x :: l, k => by
    rw [List.map_cons, List.length_cons, List.range_succ_eq_map, List.map_cons, List.map_map]
    show P.tup [.int (k : Nat), g x] :: enumP (k + 1) (l.map g) = _
    rw [enum_map g dflt l (k + 1)]
    refine List.cons_eq_cons.mpr ⟨rfl, List.map_congr_left fun i _ => ?_⟩
    show P.tup [np (k + 1 + i), _] = P.tup [np (k + (i + 1)), _]
    rw [show k + 1 + i = k + (i + 1) by omega, List.getD_cons_succ]
theorem enum_tup {α : Type} (g : α → P) (dflt : α) (l : List α) : enumOk (.tup (l.map g)) = some ((List.range l.length).map fun i => .tup [np i, g (l.getD i dflt)]) := by
  show some (enumP 0 (l.map g)) = _
  rw [enum_map g dflt]
  refine congrArg some (List.map_congr_left fun i _ => ?_)
  rw [Nat.zero_add]
theorem enum_lst {α : Type} (g : α → P) (dflt : α) (l : List α) : enumOk (.lst (l.map g)) = some ((List.range l.length).map fun i => .tup [np i, g (l.getD i dflt)]) := by
  show some (enumP 0 (l.map g)) = _
  rw [enum_map g dflt]
  refine congrArg some (List.map_congr_left fun i _ => ?_)
  rw [Nat.zero_add]
theorem rg_np (n : Nat) : rgP ((0 : Nat) : Int) (n : Int) = (List.range n).map np := by
  unfold rgP
  rw [show (((n : Int) - ((0 : Nat) : Int)).toNat) = n by omega]
  refine List.map_congr_left fun i _ => ?_
  show P.int _ = P.int _
  congr 1
  omega
theorem o_bit {a b : Nat} : (a >>> b) &&& 1 = (a.testBit b).toNat := by
  rw [Nat.and_one_is_mod, Nat.toNat_testBit, Nat.shiftRight_eq_div_pow]
theorem eq_bl {a b : Bool} {Q : V' → Prop} : oEq false (.bl a) (.bl b) Q = Q (.p (.bl (decide (a = b)))) := by
  cases a <;> cases b <;> rfl
def optP : Option Nat → P
  | none => .non
  | some k => np k
theorem cnd_some {o : Option Nat} {A B : Prop} {t : Tag2 A B} (h1 : ∀ k, o = some k → A) (h2 : o = none → B) : cnd (!isNonP (optP o)) A B t := by
  cases o with
  | none => exact h2 rfl
  | some k => exact h1 k rfl
theorem cnd_none {o : Option Nat} {A B : Prop} {t : Tag2 A B} (h1 : o = none → A) (h2 : ∀ k, o = some k → B) : cnd (isNonP (optP o)) A B t := by
  cases o with
  | none => exact h1 rfl
  | some k => exact h2 k rfl
theorem asc_ints {ms : List Int} {ks : List Nat} (h : ms.Pairwise (· < ·)) (hk : ks.Pairwise (· < ·)) (e : ∀ i, i ∈ ms ↔ i ∈ ks.map Int.ofNat) : ms = ks.map Int.ofNat := by
  have hk' : (ks.map Int.ofNat).Pairwise (· < ·) := List.pairwise_map.mpr (hk.imp fun h => Int.ofNat_lt.mpr h)
  have hn : ms.Nodup := h.imp fun h => Int.ne_of_lt h
  have hn' : (ks.map Int.ofNat).Nodup := hk'.imp fun h => Int.ne_of_lt h
  have hp : ms.Perm (ks.map Int.ofNat) := (List.perm_ext_iff_of_nodup hn hn').mpr e
  exact hp.eq_of_pairwise (le := (· < ·)) (fun a b _ _ h1 h2 => by omega) h hk'
theorem filter_all {α : Type} (l : List α) : l.filter (fun _ => true) = l := List.filter_eq_self.mpr (fun _ _ => rfl)
/-- a comprehension without a test -/
theorem lcT {p : Pat} {e : VE} {vs : List Nat} {Q : List P → VEnv → Prop} {E : VEnv} {α : Type} {g : α → P} {l : List α} {f : α → P} {bd : α → VEnv} (hb : ∀ a, bindVP p (g a) E = some (bd a)) (hw : ∀ a, wipeV (bd a) vs = E)
    (hl : l.length ≤ 1000000) (he : ∀ a ∈ l, ∀ Q : Hd → VEnv → Prop, (∀ h, take1 (bd a) h = some (f a, bd a) → Q h (bd a)) → e noXV (bd a) Q) (q : Q (l.map f) E) :
    vlcGo p vYes e vs Q (l.map g) [] E :=
  lcV (c := fun _ => true) hb hw hl (fun _ _ _ hQ => hQ) (fun a h _ => he a h) (by rw [filter_all]; exact q)
/-- items picked by their places -/
theorem map_getD {α : Type} (dflt : α) (l : List α) : (List.range l.length).map (fun i => l.getD i dflt) = l := by
  refine List.ext_getElem? fun i => ?_
  rw [List.getElem?_map]
  by_cases h : i < l.length
  · rw [List.getElem?_range h, List.getElem?_eq_getElem h]
    show some (l.getD i dflt) = _
    rw [List.getD_eq_getElem?_getD, List.getElem?_eq_getElem h]
    rfl
  · rw [List.getElem?_eq_none (by rw [List.length_range]; omega), List.getElem?_eq_none (by omega)]
    rfl
theorem cut_to {xs : List P} {k : Nat} : cutP xs none (some (k : Int)) = xs.take k := by
  unfold cutP
  rw [HT.sIx_none, HT.sIx_nat, List.drop_zero, Nat.sub_zero]
  by_cases h : k ≤ xs.length
  · rw [Nat.min_eq_left h]
  · rw [Nat.min_eq_right (by omega), List.take_length, List.take_of_length_le (by omega)]
theorem cut_from {xs : List P} {k : Nat} : cutP xs (some (k : Int)) none = xs.drop k := by
  unfold cutP
  rw [HT.sIx_none, HT.sIx_nat]
  by_cases h : k ≤ xs.length
  · rw [Nat.min_eq_left h, List.take_of_length_le (by rw [List.length_drop]; omega)]
  · rw [Nat.min_eq_right (by omega), List.drop_length, List.drop_of_length_le (by omega), List.take_nil]
def txN (k : Nat) : Str := toString (k : Int)
theorem c_strI {k : Nat} {Q : V' → Prop} (h : k < 2 ^ 64) : cStr [np k] Q = Q (.p (.str (txN k))) := by
  have : ((k : Int).natAbs.log2 < 1920) := by
    rw [Int.natAbs_natCast]
    by_cases h0 : k = 0
    · subst h0; decide
    · exact Nat.lt_trans ((Nat.log2_lt h0).mpr h) (by decide)
  show (_ ∧ Q (.p (.str (toString (k : Int))))) = _
  rw [eq_true this, true_and]
  rfl
def nmN (s : String) (k : Nat) : Str := Str.ofString s ++ txN k
/-! membership of clean values -/
theorem clns_mem {k : Nat} : ∀ {xs : List P}, clns k xs = true ↔ ∀ x ∈ xs, cln k x = true
  | [] => ⟨(fun _ _ h => nomatch h), (fun _ => by unfold clns; rfl)⟩
  | x :: r => by
    unfold clns
    rw [Bool.and_eq_true_iff, clns_mem (xs := r)]
    exact ⟨fun h y hy => by rcases List.mem_cons.mp hy with rfl | hy; exact h.1; exact h.2 y hy, fun h => ⟨h x (List.mem_cons_self ..), fun y hy => h y (List.mem_cons_of_mem _ hy)⟩⟩
mutual
theorem cln_up1 : ∀ (x : P) (k : Nat), cln k x = true → cln (k + 1) x = true
  | .non, k, _ => by unfold cln; rfl
  | .int _, k, _ => by unfold cln; rfl
  | .str _, k, h => by unfold cln at h ⊢; exact h
  | .bl _, k, h => by cases k <;> cases h
  | .fro _, k, h => by cases k <;> cases h
  | .dct _ _, k, h => by cases k <;> cases h
  | .obj _ _, k, h => by cases k <;> cases h
  | .tup xs, 0, h => by cases h
  | .lst xs, 0, h => by cases h
  | .tup xs, k + 1, h => by unfold cln at h ⊢; exact clns_up1 xs k h
  | .lst xs, k + 1, h => by unfold cln at h ⊢; exact clns_up1 xs k h
theorem clns_up1 : ∀ (xs : List P) (k : Nat), clns k xs = true → clns (k + 1) xs = true
  | [], k, _ => by unfold clns; rfl
  | x :: r, k, h => by
    unfold clns at h ⊢
    rw [Bool.and_eq_true_iff] at h ⊢
    exact ⟨cln_up1 x k h.1, clns_up1 r k h.2⟩
end
theorem cln_up {x : P} {k : Nat} (h : cln k x = true) : cln (k + 1) x = true := cln_up1 x k h
theorem toPys_mem {x : P} {p : PyData} (hx : cln 64 x = true) (hp : toPy x = some p) : ∀ {ys : List P} {ps : List PyData}, (∀ y ∈ ys, cln 64 y = true) → toPys ys = some ps → ps.any (fun z => PyData.eqv z p) = decide (x ∈ ys)
  | [], ps, _, e => by
    unfold toPys at e
    cases e
    rw [decide_eq_false (by simp)]
    rfl
  | y :: r, ps, h, e => by
    unfold toPys at e
    cases e1 : toPy y with
    | none => rw [e1] at e; cases toPys r <;> cases e
    | some q =>
    cases e2 : toPys r with
    | none => rw [e1, e2] at e; cases e
    | some qs =>
      rw [e1, e2] at e
      cases e
      rw [List.any_cons, toPys_mem hx hp (fun z hz => h z (List.mem_cons_of_mem _ hz)) e2, Bool.eq_iff_iff, Bool.or_eq_true, cln_eqv y x 64 64 q p (h y (List.mem_cons_self ..)) hx e1 hp, decide_eq_true_iff, decide_eq_true_iff, List.mem_cons]
      constructor
      · rintro (h | h)
        · exact .inl h.symm
        · exact .inr h
      · rintro (h | h)
        · exact .inl h.symm
        · exact .inr h
theorem o_inC {x : P} {ys : List P} {neg : Bool} {Q : V' → Prop} (hx : cln 64 x = true) (hy : ∀ y ∈ ys, cln 63 y = true) (q : Q (.p (.bl (sg neg (decide (x ∈ ys)))))) : oIn neg x (.lst ys) Q := by
  obtain ⟨p, a1, a2⟩ := cln_shaped hx
  have hl : cln 64 (.lst ys) = true := by unfold cln; exact clns_mem.mpr hy
  obtain ⟨pl, b1, b2⟩ := cln_shaped hl
  unfold toPy at b1
  cases e : toPys ys with
  | none => rw [e] at b1; cases b1
  | some ps =>
    rw [e] at b1
    cases b1
    refine .inr ⟨p, ps, a1, e, a2, b2, ?_⟩
    rw [toPys_mem hx a1 (fun y h => ?_) e]
    · exact q
    · have := hy y h
      cases y with
      | tup xs => exact cln_up this
      | lst xs => exact cln_up this
      | non => unfold cln; rfl
      | int i => unfold cln; rfl
      | str s => unfold cln at this ⊢; exact this
      | bl b => cases this
      | fro xs => cases this
      | dct t kvs => cases this
      | obj c fs => cases this
theorem o_selfN {x : P} {Q : V' → Prop} (hx : cln 64 x = true) : oEq true x x Q = Q (.p (.bl false)) := by
  rw [o_eqC hx hx, decide_eq_true rfl]
  rfl
theorem o_selfE {x : P} {Q : V' → Prop} (hx : cln 64 x = true) : oEq false x x Q = Q (.p (.bl true)) := by
  rw [o_eqC hx hx, decide_eq_true rfl]
  rfl
theorem o_diffN {x y : P} {Q : V' → Prop} (hx : cln 64 x = true) (hy : cln 64 y = true) (h : x ≠ y) : oEq true x y Q = Q (.p (.bl true)) := by
  rw [o_eqC hx hy, decide_eq_false h]
  rfl
theorem o_diffE {x y : P} {Q : V' → Prop} (hx : cln 64 x = true) (hy : cln 64 y = true) (h : x ≠ y) : oEq false x y Q = Q (.p (.bl false)) := by
  rw [o_eqC hx hy, decide_eq_false h]
  rfl
theorem cln_tup {k : Nat} {xs : List P} (h : ∀ x ∈ xs, cln k x = true) : cln (k + 1) (.tup xs) = true := by
  unfold cln
  exact clns_mem.mpr h
theorem cln_lst {k : Nat} {xs : List P} (h : ∀ x ∈ xs, cln k x = true) : cln (k + 1) (.lst xs) = true := by
  unfold cln
  exact clns_mem.mpr h
theorem cln_tmap {α : Type} {k : Nat} {f : α → P} {l : List α} (h : ∀ a ∈ l, cln k (f a) = true) : cln (k + 1) (.tup (l.map f)) = true := cln_tup fun x hx => by
  obtain ⟨a, ha, rfl⟩ := List.mem_map.mp hx
  exact h a ha
theorem cln_lmap {α : Type} {k : Nat} {f : α → P} {l : List α} (h : ∀ a ∈ l, cln k (f a) = true) : cln (k + 1) (.lst (l.map f)) = true := cln_lst fun x hx => by
  obtain ⟨a, ha, rfl⟩ := List.mem_map.mp hx
  exact h a ha
theorem cln_nps {k : Nat} {l : List Nat} : cln (k + 1) (.tup (l.map np)) = true := cln_tmap fun a _ => cln_np k a
theorem cln_str {k : Nat} {s : Str} (h : cln 0 (.str s) = true) : cln k (.str s) = true := by unfold cln at h ⊢; exact h
theorem cln_non {k : Nat} : cln k .non = true := by unfold cln; rfl
theorem m_popAt {xs : List P} {x : P} {i : Nat} {Q : P → P → Prop} (h : xs[i]? = some x) (hi : xs.length ≤ 1000000) (q : Q x (.lst (xs.eraseIdx i))) : mPopAt (.lst xs) [np i] Q := by
  have hlt := (List.getElem?_eq_some_iff.mp h).1
  refine ⟨i, by omega, by omega, ?_, gv_iff.mpr ⟨x, h, q⟩⟩
  unfold seqIndex?
  simp
  omega
end WW


set_option Elab.async false
set_option linter.all false
set_option maxRecDepth 100000
set_option maxHeartbeats 4000000
set_option autoImplicit false
namespace WW
open PySem PySem.Spec PyProof.Rows L2

/-! ### nets as values -/
structure SwV where
  name : Str
  room : Nat
  sees : Nat
  hands : Nat
  falls : Nat
  blind : Nat
structure HoV where
  name : Str
  home : Nat
  tenant : Str
  relay : Nat
structure LkV where
  one : Nat
  other : Nat
  room : Nat
structure NetV where
  data : Nat
  marks : Nat
  sws : List SwV
  lks : List LkV
  hos : List HoV
instance : Inhabited SwV := ⟨⟨Str.ofString "", 0, 0, 0, 0, 0⟩⟩
instance : Inhabited HoV := ⟨⟨Str.ofString "", 0, Str.ofString "", 0⟩⟩
instance : Inhabited LkV := ⟨⟨0, 0, 0⟩⟩
def kindP (s : SwV) : P := .tup [np s.sees, np s.hands, np s.falls, np s.blind]
def swP (s : SwV) : P := .tup [.str s.name, np s.room, kindP s]
def lkP (l : LkV) : P := .tup [np l.one, np l.other, np l.room]
def hoP (h : HoV) : P := .tup [.str h.name, np h.home, .str h.tenant, np h.relay]
def prP (e : Nat × Nat) : P := .tup [np e.1, np e.2]
def LkV.ends (l : LkV) : Nat × Nat := (l.one, l.other)
def NetV.ends (n : NetV) : List (Nat × Nat) := n.lks.map LkV.ends
def NetV.homes (n : NetV) : List Nat := n.hos.map HoV.home
/-- the numbers of the links at a switch, of the hosts at a switch -/
def nearL (ls : List (Nat × Nat)) (s : Nat) : List Nat := (List.range ls.length).filter fun i => decide ((ls.getD i (0, 0)).1 = s ∨ (ls.getD i (0, 0)).2 = s)
def nearH (hs : List Nat) (s : Nat) : List Nat := (List.range hs.length).filter fun i => decide (hs.getD i 0 = s)
def netF (n : NetV) : List (Str × P) := [(Str.ofString "data", np n.data), (Str.ofString "marks", np n.marks), (Str.ofString "width", np (n.data + n.marks)),
  (Str.ofString "switches", .tup (n.sws.map fun s => .str s.name)), (Str.ofString "rooms", .tup (n.sws.map fun s => np s.room)), (Str.ofString "kinds", .tup (n.sws.map kindP)),
  (Str.ofString "links", .tup (n.ends.map prP)), (Str.ofString "link_rooms", .tup (n.lks.map fun l => np l.room)),
  (Str.ofString "hosts", .tup (n.hos.map fun h => .str h.name)), (Str.ofString "homes", .tup (n.homes.map np)), (Str.ofString "tenants", .tup (n.hos.map fun h => .str h.tenant)), (Str.ofString "relays", .tup (n.hos.map fun h => np h.relay)),
  (Str.ofString "data_care", np (2 ^ n.data - 1)), (Str.ofString "mark_care", np ((2 ^ n.marks - 1) * 2 ^ n.data)),
  (Str.ofString "near_links", .tup ((List.range n.sws.length).map fun s => .tup ((nearL n.ends s).map np))), (Str.ofString "near_hosts", .tup ((List.range n.sws.length).map fun s => .tup ((nearH n.homes s).map np)))]
def netP (n : NetV) : P := .obj (Str.ofString "Net") (netF n)
abbrev cNet : List Str := [Str.ofString "Net"]
section
variable {n : NetV} {Q : P → Prop}
theorem fn_data : fldP cNet (Str.ofString "data") (netP n) Q = Q (np n.data) := (rfl)
theorem fn_marks : fldP cNet (Str.ofString "marks") (netP n) Q = Q (np n.marks) := (rfl)
theorem fn_width : fldP cNet (Str.ofString "width") (netP n) Q = Q (np (n.data + n.marks)) := (rfl)
theorem fn_switches : fldP cNet (Str.ofString "switches") (netP n) Q = Q (.tup (n.sws.map fun s => .str s.name)) := (rfl)
theorem fn_rooms : fldP cNet (Str.ofString "rooms") (netP n) Q = Q (.tup (n.sws.map fun s => np s.room)) := (rfl)
theorem fn_kinds : fldP cNet (Str.ofString "kinds") (netP n) Q = Q (.tup (n.sws.map kindP)) := (rfl)
theorem fn_links : fldP cNet (Str.ofString "links") (netP n) Q = Q (.tup (n.ends.map prP)) := (rfl)
theorem fn_link_rooms : fldP cNet (Str.ofString "link_rooms") (netP n) Q = Q (.tup (n.lks.map fun l => np l.room)) := (rfl)
theorem fn_hosts : fldP cNet (Str.ofString "hosts") (netP n) Q = Q (.tup (n.hos.map fun h => .str h.name)) := (rfl)
theorem fn_homes : fldP cNet (Str.ofString "homes") (netP n) Q = Q (.tup (n.homes.map np)) := (rfl)
theorem fn_tenants : fldP cNet (Str.ofString "tenants") (netP n) Q = Q (.tup (n.hos.map fun h => .str h.tenant)) := (rfl)
theorem fn_relays : fldP cNet (Str.ofString "relays") (netP n) Q = Q (.tup (n.hos.map fun h => np h.relay)) := (rfl)
theorem fn_data_care : fldP cNet (Str.ofString "data_care") (netP n) Q = Q (np (2 ^ n.data - 1)) := (rfl)
theorem fn_mark_care : fldP cNet (Str.ofString "mark_care") (netP n) Q = Q (np ((2 ^ n.marks - 1) * 2 ^ n.data)) := (rfl)
theorem fn_near_links : fldP cNet (Str.ofString "near_links") (netP n) Q = Q (.tup ((List.range n.sws.length).map fun s => .tup ((nearL n.ends s).map np))) := (rfl)
theorem fn_near_hosts : fldP cNet (Str.ofString "near_hosts") (netP n) Q = Q (.tup ((List.range n.sws.length).map fun s => .tup ((nearH n.homes s).map np))) := (rfl)
theorem mn_links_at : mthP (Str.ofString "Net") (Str.ofString "links_at") (netP n) = True := eq_true ⟨rfl, rfl⟩
theorem mn_hosts_at : mthP (Str.ofString "Net") (Str.ofString "hosts_at") (netP n) = True := eq_true ⟨rfl, rfl⟩
theorem mn_far : mthP (Str.ofString "Net") (Str.ofString "far") (netP n) = True := eq_true ⟨rfl, rfl⟩
theorem mn_host_door : mthP (Str.ofString "Net") (Str.ofString "host_door") (netP n) = True := eq_true ⟨rfl, rfl⟩
theorem mn_host_at : mthP (Str.ofString "Net") (Str.ofString "host_at") (netP n) = True := eq_true ⟨rfl, rfl⟩
theorem mn_link_lot : mthP (Str.ofString "Net") (Str.ofString "link_lot") (netP n) = True := eq_true ⟨rfl, rfl⟩
theorem mn_form : mthP (Str.ofString "Net") (Str.ofString "form") (netP n) = True := eq_true ⟨rfl, rfl⟩
end
end WW


set_option Elab.async false
set_option linter.all false
set_option maxRecDepth 100000
set_option maxHeartbeats 4000000
set_option autoImplicit false
namespace WW
open PySem PySem.Spec PyProof.Rows L2
local macro_rules | `(tactic| walk_at "w") => `(tactic| try simp -dsimp (disch := first | omega | (simp only [List.length_cons, List.length_nil]; omega)) only [↓fn_data, ↓fn_marks, ↓fn_width, ↓fn_switches, ↓fn_rooms, ↓fn_kinds, ↓fn_links, ↓fn_link_rooms, ↓fn_hosts, ↓fn_homes, ↓fn_tenants, ↓fn_relays, ↓fn_data_care, ↓fn_mark_care, ↓fn_near_links, ↓fn_near_hosts, mn_links_at, mn_hosts_at, mn_far, mn_host_door, mn_host_at, mn_link_lot, mn_form, ↓av_isi, ↓isi_non, ↓isi_bl, ↓isi_int, ↓isi_str, ↓isi_tup, ↓isi_lst, isiB, ↓av_fld, ↓av_fset, ↓av_mth, ↓av_callV, ↓av_mak, ↓av_var, ↓av_cst, ↓av_op, ↓av_neg, ↓av_notV, ↓av_andV, ↓av_orV, ↓av_chain, ↓av_if, ↓av_nil, ↓av_cons, ↓av_tup, ↓av_lst, ↓av_noP, ↓av_part, ↓av_slc, ↓av_bits, ↓av_tst, ↓av_tsB, ↓av_notB, ↓av_andB, ↓av_orB, ↓av_yes, ↓av_blt, ↓av_sset, ↓av_lstR, ↓av_tupR, ↓av_metR, ↓av_mut, ↓av_get, ↓av_srtK, ↓av_lc, ↓av_call, ↓av_seqI, ↓av_enum, ↓av_rng, ↓av_asg, ↓av_asgP, ↓av_set, ↓av_drop, ↓av_ret, ↓av_retN, ↓av_brk, ↓av_cnt, ↓av_pas, ↓av_sq, ↓av_ifS, ↓av_for, ↓av_forN, ↓av_forD, un_d, d_0, d_1, g_1, g_2, st_dct, ixv_dct, ↓hold1, ↓cnd_t, ↓cnd_f, cnd_pos, cnd_neg, ↓rd_slot, ↓rd_v, rds, val_p, val_b, val_o, val_io, own_o, own_io, re_o, re_io, mp_some, ↓src_v, ↓src_s, un_none, lock_none, ↓unK_none, ↓unK_some, lock_some, un_some, ↓asg_s, ↓asg_v', ↓ret_v, ↓ret_s, ↓kv_nx, ↓kv_rt, kL_nx, kL_ct, kL_bk, kL_rt, kL_ex, kS_nx, kS_ct, kS_bk, kS_rt, kS_ex, ↓kU_nx, ↓kU_ct, ↓kU_bk, ↓kU_rt, ↓kD_nx, ↓kD_ct, ↓kD_bk, kD_ex, ↓gv_some, ↓o_add, ↓o_sub, ↓o_and, ↓o_or, ↓o_xor, ↓o_shl1, ↓o_shr, ↓o_mod, ↓o_mulS, ↓o_divS, ↓o_lt, ↓o_le, ↓o_gt, ↓o_ge, ↓o_eq, ↓o_ne, ↓o_is, ↓o_isnot, nn_int, nn_non, nn_tup, nn_str, nn_lst, nn_bl, nn_obj, nn_dct, ↓sz_le', ↓sz_lt',  ↓t_bl, ↓t_np, ↓t_tup, ↓t_lst, ↓b_bl, ↓i_int, ↓i_np, ↓i_np2, ↓c_int1, ↓c_len1, ↓c_len2, ↓c_tup1, ↓c_tup2, ↓c_lst1, ↓c_lst2, ↓c_lst3, ↓c_str1, ↓c_strI, cut_to, cut_from, List.take_succ_cons, List.take_zero, List.drop_succ_cons, List.drop_zero, List.take_nil, List.drop_nil, ↓sl_tup, ↓sl_lst, ↓sl_fro, ↓a_lst, ↓a_tup, ↓a_str, ↓m_app', is_lst, is_tup, is_tupL, ba_tup, ba_lst, it_tup, it_lst, ↓ix_tup, ↓ix_lst, st_lst, lk, pt, take1, takeL, tks, ioSl, ioOk, ioOk1, clash, cvt, putIO, outs, bor, bindVP, bindVL, pasAll, pasB, wipeV, restV, Option.map_some, Option.map_none, List.all_cons, List.all_nil, Bool.and_true, Bool.true_and, Bool.not_true, Bool.not_false, Bool.false_and, Bool.and_false, true_and, and_true, reduceIte, decide_true, decide_false, List.map_cons, List.map_nil, List.length_cons, List.length_nil, List.cons_append, List.nil_append, List.append_nil, List.replicate, List.getElem?_cons_zero, List.getElem?_cons_succ, List.set_cons_zero, List.set_cons_succ, Nat.reduceBEq, Nat.reduceSub, Nat.reduceAdd, Nat.reduceMul, Bool.not_not])
local macro_rules | `(tactic| walk_at "wh") => `(tactic| try simp -dsimp (disch := first | omega | (simp only [List.length_cons, List.length_nil]; omega)) only [↓fn_data, ↓fn_marks, ↓fn_width, ↓fn_switches, ↓fn_rooms, ↓fn_kinds, ↓fn_links, ↓fn_link_rooms, ↓fn_hosts, ↓fn_homes, ↓fn_tenants, ↓fn_relays, ↓fn_data_care, ↓fn_mark_care, ↓fn_near_links, ↓fn_near_hosts, mn_links_at, mn_hosts_at, mn_far, mn_host_door, mn_host_at, mn_link_lot, mn_form, ↓av_isi, ↓isi_non, ↓isi_bl, ↓isi_int, ↓isi_str, ↓isi_tup, ↓isi_lst, isiB, ↓av_fld, ↓av_fset, ↓av_mth, ↓av_callV, ↓av_mak, ↓av_var, ↓av_cst, ↓av_op, ↓av_neg, ↓av_notV, ↓av_andV, ↓av_orV, ↓av_chain, ↓av_if, ↓av_nil, ↓av_cons, ↓av_tup, ↓av_lst, ↓av_noP, ↓av_part, ↓av_slc, ↓av_bits, ↓av_tst, ↓av_tsB, ↓av_notB, ↓av_andB, ↓av_orB, ↓av_yes, ↓av_blt, ↓av_sset, ↓av_lstR, ↓av_tupR, ↓av_metR, ↓av_mut, ↓av_get, ↓av_srtK, ↓av_lc, ↓av_call, ↓av_seqI, ↓av_enum, ↓av_rng, ↓av_asg, ↓av_asgP, ↓av_set, ↓av_drop, ↓av_ret, ↓av_retN, ↓av_brk, ↓av_cnt, ↓av_pas, ↓av_sq, ↓av_ifS, ↓av_for, ↓av_forN, ↓av_forD, un_d, d_0, d_1, g_1, g_2, st_dct, ixv_dct, ↓hold1, ↓cnd_t, ↓cnd_f, cnd_pos, cnd_neg, ↓rd_slot, ↓rd_v, rds, val_p, val_b, val_o, val_io, own_o, own_io, re_o, re_io, mp_some, ↓src_v, ↓src_s, un_none, lock_none, ↓unK_none, ↓unK_some, lock_some, un_some, ↓asg_s, ↓asg_v', ↓ret_v, ↓ret_s, ↓kv_nx, ↓kv_rt, kL_nx, kL_ct, kL_bk, kL_rt, kL_ex, kS_nx, kS_ct, kS_bk, kS_rt, kS_ex, ↓kU_nx, ↓kU_ct, ↓kU_bk, ↓kU_rt, ↓kD_nx, ↓kD_ct, ↓kD_bk, kD_ex, ↓gv_some, ↓o_add, ↓o_sub, ↓o_and, ↓o_or, ↓o_xor, ↓o_shl1, ↓o_shr, ↓o_mod, ↓o_mulS, ↓o_divS, ↓o_lt, ↓o_le, ↓o_gt, ↓o_ge, ↓o_eq, ↓o_ne, ↓o_is, ↓o_isnot, nn_int, nn_non, nn_tup, nn_str, nn_lst, nn_bl, nn_obj, nn_dct, ↓sz_le', ↓sz_lt',  ↓t_bl, ↓t_np, ↓t_tup, ↓t_lst, ↓b_bl, ↓i_int, ↓i_np, ↓i_np2, ↓c_int1, ↓c_len1, ↓c_len2, ↓c_tup1, ↓c_tup2, ↓c_lst1, ↓c_lst2, ↓c_lst3, ↓c_str1, ↓c_strI, cut_to, cut_from, List.take_succ_cons, List.take_zero, List.drop_succ_cons, List.drop_zero, List.take_nil, List.drop_nil, ↓sl_tup, ↓sl_lst, ↓sl_fro, ↓a_lst, ↓a_tup, ↓a_str, ↓m_app', is_lst, is_tup, is_tupL, ba_tup, ba_lst, it_tup, it_lst, ↓ix_tup, ↓ix_lst, st_lst, lk, pt, take1, takeL, tks, ioSl, ioOk, ioOk1, clash, cvt, putIO, outs, bor, bindVP, bindVL, pasAll, pasB, wipeV, restV, Option.map_some, Option.map_none, List.all_cons, List.all_nil, Bool.and_true, Bool.true_and, Bool.not_true, Bool.not_false, Bool.false_and, Bool.and_false, true_and, and_true, reduceIte, decide_true, decide_false, List.map_cons, List.map_nil, List.length_cons, List.length_nil, List.cons_append, List.nil_append, List.append_nil, List.replicate, List.getElem?_cons_zero, List.getElem?_cons_succ, List.set_cons_zero, List.set_cons_succ, Nat.reduceBEq, Nat.reduceSub, Nat.reduceAdd, Nat.reduceMul, Bool.not_not, *])
theorem in_pair {s a b : Nat} {neg : Bool} {Q : V' → Prop} : oIn neg (np s) (.tup [np a, np b]) Q = Q (.p (.bl (sg neg (decide (a = s ∨ b = s))))) := by
  show (flatP (np s) = true ∧ [np a, np b].all flatP = true ∧ Q (.p (.bl (sg neg (inFP (np s) [np a, np b]))))) = _
  have e : inFP (np s) [np a, np b] = decide (a = s ∨ b = s) := by
    show (((a : Int) == (s : Int)) || (((b : Int) == (s : Int)) || false)) = _
    rw [Bool.or_false, Bool.eq_iff_iff, Bool.or_eq_true, decide_eq_true_iff, beq_iff_eq, beq_iff_eq]
    constructor <;> (rintro (h | h) <;> omega)
  rw [e]
  exact propext ⟨fun h => h.2.2, fun h => ⟨rfl, rfl, h⟩⟩
theorem law_links_near {ls : List (Nat × Nat)} {s : Nat} {Q : V' → List P → Prop} (hl : ls.length ≤ 1000) (q : Q (.p (.tup ((nearL ls s).map np))) []) : sp_links_near [.p (.tup (ls.map prP)), .p (np s)] Q := by
  rw [run_links_near]; unfold v_links_near
  walk_at "w"
  rw [enum_tup prP (0, 0)]
  walk_at "w"
  refine lcV (g := fun i => .tup [np i, prP (ls.getD i (0, 0))]) (c := fun i => decide ((ls.getD i (0, 0)).1 = s ∨ (ls.getD i (0, 0)).2 = s)) (f := np) (bd := fun i => [some (.p (.tup (ls.map prP))), some (.p (np s)), some (.p (np i)), some (.p (prP (ls.getD i (0, 0))))]) (fun _ => rfl) (fun _ => rfl) (by rw [List.length_range]; omega) (fun i _ Q hQ => ?_) (fun i _ _ Q hQ => ?_) ?_
  · walk_at "w"
    unfold prP
    refine in_pair.mpr ?_
    walk_at "w"
    exact hQ
  · walk_at "w"
    exact hQ _ rfl
  walk_at "w"
  exact q
theorem law_hosts_near {hs : List Nat} {s : Nat} {Q : V' → List P → Prop} (hl : hs.length ≤ 1000) (q : Q (.p (.tup ((nearH hs s).map np))) []) : sp_hosts_near [.p (.tup (hs.map np)), .p (np s)] Q := by
  rw [run_hosts_near]; unfold v_hosts_near
  walk_at "w"
  rw [enum_tup np 0]
  walk_at "w"
  refine lcV (g := fun i => .tup [np i, np (hs.getD i 0)]) (c := fun i => decide (hs.getD i 0 = s)) (f := np) (bd := fun i => [some (.p (.tup (hs.map np))), some (.p (np s)), some (.p (np i)), some (.p (np (hs.getD i 0)))]) (fun _ => rfl) (fun _ => rfl) (by rw [List.length_range]; omega) (fun i _ Q hQ => ?_) (fun i _ _ Q hQ => ?_) ?_
  · walk_at "w"
    exact hQ
  · walk_at "w"
    exact hQ _ rfl
  walk_at "w"
  exact q
def NetOk (n : NetV) : Prop := n.data ≤ 10 ∧ n.marks ≤ 10 ∧ n.sws.length ≤ 100 ∧ n.lks.length ≤ 100 ∧ n.hos.length ≤ 100
theorem law_Net_init {n : NetV} {Q : V' → List P → Prop} (h : NetOk n) (q : Q (.p .non) [netP n]) : sp_Net_init [.io (.obj (Str.ofString "Net") []), .p (np n.data), .p (np n.marks), .p (.tup (n.sws.map swP)), .p (.tup (n.lks.map lkP)), .p (.tup (n.hos.map hoP))] Q := by
  obtain ⟨h1, h2, h3, h4, h5⟩ := h
  have p1 := Nat.two_pow_pos n.data
  have p2 := Nat.two_pow_pos n.marks
  rw [run_Net_init]; unfold v_Net_init
  walk_at "w"
  refine fset_new (List.mem_singleton.mpr rfl) (Nat.le_of_ble_eq_true rfl) rfl ?_
  walk_at "w"
  refine fset_new (List.mem_singleton.mpr rfl) (Nat.le_of_ble_eq_true rfl) rfl ?_
  walk_at "w"
  refine fset_new (List.mem_singleton.mpr rfl) (Nat.le_of_ble_eq_true rfl) rfl ?_
  walk_at "w"
  refine lcV (g := swP) (c := fun _ => true) (f := fun s => .str s.name) (bd := _) (fun _ => rfl) (fun _ => rfl) (by omega) (fun i _ Q hQ => hQ) (fun i _ _ Q hQ => ?_) ?_
  · walk_at "w"
    exact hQ _ rfl
  rw [filter_all]
  walk_at "w"
  refine fset_new (List.mem_singleton.mpr rfl) (Nat.le_of_ble_eq_true rfl) rfl ?_
  walk_at "w"
  refine lcV (g := swP) (c := fun _ => true) (f := fun s => np s.room) (bd := _) (fun _ => rfl) (fun _ => rfl) (by omega) (fun i _ Q hQ => hQ) (fun i _ _ Q hQ => ?_) ?_
  · walk_at "w"
    exact hQ _ rfl
  rw [filter_all]
  walk_at "w"
  refine fset_new (List.mem_singleton.mpr rfl) (Nat.le_of_ble_eq_true rfl) rfl ?_
  walk_at "w"
  refine lcV (g := swP) (c := fun _ => true) (f := kindP) (bd := _) (fun _ => rfl) (fun _ => rfl) (by omega) (fun i _ Q hQ => hQ) (fun i _ _ Q hQ => ?_) ?_
  · walk_at "w"
    exact hQ _ rfl
  rw [filter_all]
  walk_at "w"
  refine fset_new (List.mem_singleton.mpr rfl) (Nat.le_of_ble_eq_true rfl) rfl ?_
  walk_at "w"
  refine lcV (g := lkP) (c := fun _ => true) (f := fun l => prP l.ends) (bd := _) (fun _ => rfl) (fun _ => rfl) (by omega) (fun i _ Q hQ => hQ) (fun i _ _ Q hQ => ?_) ?_
  · walk_at "w"
    exact hQ _ rfl
  rw [filter_all, show (n.lks.map fun l => prP l.ends) = n.ends.map prP by unfold NetV.ends; rw [List.map_map]; rfl]
  walk_at "w"
  refine fset_new (List.mem_singleton.mpr rfl) (Nat.le_of_ble_eq_true rfl) rfl ?_
  walk_at "w"
  refine lcV (g := lkP) (c := fun _ => true) (f := fun l => np l.room) (bd := _) (fun _ => rfl) (fun _ => rfl) (by omega) (fun i _ Q hQ => hQ) (fun i _ _ Q hQ => ?_) ?_
  · walk_at "w"
    exact hQ _ rfl
  rw [filter_all]
  walk_at "w"
  refine fset_new (List.mem_singleton.mpr rfl) (Nat.le_of_ble_eq_true rfl) rfl ?_
  walk_at "w"
  refine lcV (g := hoP) (c := fun _ => true) (f := fun l => .str l.name) (bd := _) (fun _ => rfl) (fun _ => rfl) (by omega) (fun i _ Q hQ => hQ) (fun i _ _ Q hQ => ?_) ?_
  · walk_at "w"
    exact hQ _ rfl
  rw [filter_all]
  walk_at "w"
  refine fset_new (List.mem_singleton.mpr rfl) (Nat.le_of_ble_eq_true rfl) rfl ?_
  walk_at "w"
  refine lcV (g := hoP) (c := fun _ => true) (f := fun l => np l.home) (bd := _) (fun _ => rfl) (fun _ => rfl) (by omega) (fun i _ Q hQ => hQ) (fun i _ _ Q hQ => ?_) ?_
  · walk_at "w"
    exact hQ _ rfl
  rw [filter_all, show (n.hos.map fun l => np l.home) = n.homes.map np by unfold NetV.homes; rw [List.map_map]; rfl]
  walk_at "w"
  refine fset_new (List.mem_singleton.mpr rfl) (Nat.le_of_ble_eq_true rfl) rfl ?_
  walk_at "w"
  refine lcV (g := hoP) (c := fun _ => true) (f := fun l => .str l.tenant) (bd := _) (fun _ => rfl) (fun _ => rfl) (by omega) (fun i _ Q hQ => hQ) (fun i _ _ Q hQ => ?_) ?_
  · walk_at "w"
    exact hQ _ rfl
  rw [filter_all]
  walk_at "w"
  refine fset_new (List.mem_singleton.mpr rfl) (Nat.le_of_ble_eq_true rfl) rfl ?_
  walk_at "w"
  refine lcV (g := hoP) (c := fun _ => true) (f := fun l => np l.relay) (bd := _) (fun _ => rfl) (fun _ => rfl) (by omega) (fun i _ Q hQ => hQ) (fun i _ _ Q hQ => ?_) ?_
  · walk_at "w"
    exact hQ _ rfl
  rw [filter_all]
  walk_at "w"
  refine fset_new (List.mem_singleton.mpr rfl) (Nat.le_of_ble_eq_true rfl) rfl ?_
  walk_at "w"
  refine fset_new (List.mem_singleton.mpr rfl) (Nat.le_of_ble_eq_true rfl) rfl ?_
  walk_at "w"
  refine (o_shl n.marks (by omega) (by omega)).mpr ?_
  walk_at "w"
  refine fset_new (List.mem_singleton.mpr rfl) (Nat.le_of_ble_eq_true rfl) rfl ?_
  walk_at "w"
  refine (fld_lit (List.mem_singleton.mpr rfl) rfl).mpr ?_
  walk_at "w"
  rw [List.length_map]
  walk_at "w"
  refine lcV (g := np) (c := fun _ => true) (f := fun s => .tup ((nearL n.ends s).map np)) (bd := _) (fun _ => rfl) (fun _ => rfl) (by rw [List.length_range]; omega) (fun i _ Q hQ => hQ) (fun i _ _ Q hQ => ?_) ?_
  · walk_at "w"
    refine (fld_lit (List.mem_singleton.mpr rfl) rfl).mpr ?_
    walk_at "w"
    refine law_links_near (by unfold NetV.ends; rw [List.length_map]; omega) ?_
    walk_at "w"
    exact hQ _ rfl
  rw [filter_all]
  walk_at "w"
  refine fset_new (List.mem_singleton.mpr rfl) (Nat.le_of_ble_eq_true rfl) rfl ?_
  walk_at "w"
  refine (fld_lit (List.mem_singleton.mpr rfl) rfl).mpr ?_
  walk_at "w"
  rw [List.length_map]
  walk_at "w"
  refine lcV (g := np) (c := fun _ => true) (f := fun s => .tup ((nearH n.homes s).map np)) (bd := _) (fun _ => rfl) (fun _ => rfl) (by rw [List.length_range]; omega) (fun i _ Q hQ => hQ) (fun i _ _ Q hQ => ?_) ?_
  · walk_at "w"
    refine (fld_lit (List.mem_singleton.mpr rfl) rfl).mpr ?_
    walk_at "w"
    refine law_hosts_near (by unfold NetV.homes; rw [List.length_map]; omega) ?_
    walk_at "w"
    exact hQ _ rfl
  rw [filter_all]
  walk_at "w"
  refine fset_new (List.mem_singleton.mpr rfl) (Nat.le_of_ble_eq_true rfl) rfl ?_
  walk_at "w"
  have e : P.obj (Str.ofString "Net") (netF n) = netP n := rfl
  unfold netF at e
  rw [e]
  exact q
theorem mak_Net {n : NetV} {Q : P → List P → Prop} (h : NetOk n) (q : Q (netP n) []) : makV sp_Net_init (Str.ofString "Net") [.p (np n.data), .p (np n.marks), .p (.tup (n.sws.map swP)), .p (.tup (n.lks.map lkP)), .p (.tup (n.hos.map hoP))] Q :=
  law_Net_init h ⟨rfl, q⟩
/-! methods -/
theorem getD_map_range {α : Type} {m i : Nat} (f : Nat → α) (h : i < m) : ((List.range m).map f)[i]? = some (f i) := by
  rw [List.getElem?_map, List.getElem?_range h]
  rfl
theorem law_links_at {n : NetV} {u : V'} {s : Nat} {Q : V' → List P → Prop} (hu : Rd' u (netP n)) (hs : s < n.sws.length) (q : Q (.p (.tup ((nearL n.ends s).map np))) []) : sp_Net_links_at [u, .p (np s)] Q := by
  rw [run_Net_links_at]; unfold v_Net_links_at
  rcases hu with rfl | rfl
  all_goals
    walk_at "w"
    refine gv_iff.mpr ⟨_, getD_map_range _ hs, ?_⟩
    walk_at "w"
    exact q
theorem law_hosts_at {n : NetV} {u : V'} {s : Nat} {Q : V' → List P → Prop} (hu : Rd' u (netP n)) (hs : s < n.sws.length) (q : Q (.p (.tup ((nearH n.homes s).map np))) []) : sp_Net_hosts_at [u, .p (np s)] Q := by
  rw [run_Net_hosts_at]; unfold v_Net_hosts_at
  rcases hu with rfl | rfl
  all_goals
    walk_at "w"
    refine gv_iff.mpr ⟨_, getD_map_range _ hs, ?_⟩
    walk_at "w"
    exact q
def farN (n : NetV) (l s : Nat) : Nat := if s = (n.ends.getD l (0, 0)).1 then (n.ends.getD l (0, 0)).2 else (n.ends.getD l (0, 0)).1
theorem ends_at {n : NetV} {l : Nat} (hl : l < n.lks.length) : (n.ends.map prP)[l]? = some (prP (n.ends.getD l (0, 0))) := by
  have : l < n.ends.length := by unfold NetV.ends; rw [List.length_map]; exact hl
  rw [List.getElem?_map, List.getD_eq_getElem?_getD, List.getElem?_eq_getElem this]
  rfl
theorem law_far {n : NetV} {u : V'} {l s : Nat} {Q : V' → List P → Prop} (hu : Rd' u (netP n)) (hl : l < n.lks.length) (q : Q (.p (np (farN n l s))) []) : sp_Net_far [u, .p (np l), .p (np s)] Q := by
  rw [run_Net_far]; unfold v_Net_far
  rcases hu with rfl | rfl
  all_goals
    walk_at "w"
    refine gv_iff.mpr ⟨_, ends_at hl, ?_⟩
    unfold prP
    walk_at "w"
    refine cnd_by (fun h => ?_) (fun h => ?_)
    · walk_at "w"
      rw [farN, if_pos h] at q
      exact q
    · walk_at "w"
      rw [farN, if_neg h] at q
      exact q
theorem ends_len {n : NetV} : n.ends.length = n.lks.length := by unfold NetV.ends; rw [List.length_map]
theorem homes_len {n : NetV} : n.homes.length = n.hos.length := by unfold NetV.homes; rw [List.length_map]
theorem law_host_door {n : NetV} {u : V'} {h : Nat} {Q : V' → List P → Prop} (hu : Rd' u (netP n)) (q : Q (.p (np (n.lks.length + h))) []) : sp_Net_host_door [u, .p (np h)] Q := by
  rw [run_Net_host_door]; unfold v_Net_host_door
  rcases hu with rfl | rfl
  all_goals
    walk_at "w"
    rw [List.length_map, ends_len]
    exact q
def hostAt (n : NetV) (d : Nat) : Option Nat := if d < n.lks.length then none else some (d - n.lks.length)
theorem law_host_at {n : NetV} {u : V'} {d : Nat} {Q : V' → List P → Prop} (hu : Rd' u (netP n)) (q : Q (.p (optP (hostAt n d))) []) : sp_Net_host_at [u, .p (np d)] Q := by
  rw [run_Net_host_at]; unfold v_Net_host_at
  rcases hu with rfl | rfl
  all_goals
    walk_at "w"
    rw [List.length_map, ends_len]
    refine cnd_by (fun h => ?_) (fun h => ?_)
    · walk_at "w"
      rw [hostAt, if_pos h] at q
      exact q
    · walk_at "w"
      rw [List.length_map, ends_len]
      walk_at "w"
      rw [hostAt, if_neg h] at q
      exact q
theorem law_link_lot {n : NetV} {u : V'} {Q : V' → List P → Prop} (hu : Rd' u (netP n)) (hl : n.lks.length ≤ 100) (q : Q (.p (np (2 ^ n.lks.length - 1))) []) : sp_Net_link_lot [u] Q := by
  have := Nat.two_pow_pos n.lks.length
  rw [run_Net_link_lot]; unfold v_Net_link_lot
  rcases hu with rfl | rfl
  all_goals
    walk_at "w"
    rw [List.length_map, ends_len]
    walk_at "w"
    exact q
def formP (n : NetV) : P := .tup [np n.data, np n.marks, .tup (n.sws.map fun s => .str s.name), .tup (n.sws.map fun s => np s.room), .tup (n.sws.map kindP), .tup (n.ends.map prP), .tup (n.lks.map fun l => np l.room), .tup (n.hos.map fun h => .str h.name), .tup (n.homes.map np), .tup (n.hos.map fun h => .str h.tenant), .tup (n.hos.map fun h => np h.relay)]
theorem law_Net_form {n : NetV} {u : V'} {Q : V' → List P → Prop} (hu : Rd' u (netP n)) (q : Q (.p (formP n)) []) : sp_Net_form [u] Q := by
  rw [run_Net_form]; unfold v_Net_form
  rcases hu with rfl | rfl
  all_goals
    walk_at "w"
    exact q
end WW


set_option Elab.async false
set_option linter.all false
set_option maxRecDepth 100000
set_option maxHeartbeats 4000000
set_option autoImplicit false
namespace WW
open PySem PySem.Spec PyProof.Rows L2
/- _law_shuffled(d, row): slots d=0 row=1 left=2 found=3 step=4 -/
def c_law_shuffled_1 (p_law_draw : Spec) : WS :=
  (wDrop (wMet lstTy appM (wVar 3) (wCons (wMet lstTy popAtM (wVar 2) (wCons (wCall 2 p_law_draw (wCons (wVar 0) (wCons (wBlt lenC (wCons (wVar 2) wNil)) wNil))) wNil)) wNil)))
def v_law_shuffled_1 (q_law_draw : VSpec) : VS :=
  (vDrop (vMut isLst mApp 3 (vCons (vMut isLst mPopAt 2 (vCons (vCall [.io, .a] q_law_draw (vCons (vVar 0) (vCons (vBlt cLen (vCons (vVar 2) vNil)) vNil))) vNil)) vNil)))
theorem sim_law_shuffled_1 (q_law_draw : VSpec) : SimS (c_law_shuffled_1 (up q_law_draw)) (v_law_shuffled_1 q_law_draw) := by
  unfold c_law_shuffled_1 v_law_shuffled_1
  exact (sim_drop (sim_mut sim_app (sim_cons (sim_mut sim_popAt (sim_cons (sim_call (cv := [.io, .a]) rfl (sim_cons (sim_var 0) (sim_cons (sim_blt sim_len (sim_cons (sim_var 2) sim_nil)) sim_nil))) sim_nil)) sim_nil)))
def c_law_shuffled (p_law_draw : Spec) : WS :=
  (wSq (wAsg 2 (wBlt listC (wCons (wVar 1) wNil)))
  (wSq (wAsg 3 (wLst wNil))
  (wSq (wFor (wRng (wCons (wBlt lenC (wCons (wVar 1) wNil)) wNil)) (.nm 4) (c_law_shuffled_1 p_law_draw))
  (wRet (wVar 3)))))
def v_law_shuffled (q_law_draw : VSpec) : VS :=
  (vSq (vAsg 2 (vBlt cList (vCons (vVar 1) vNil)))
  (vSq (vAsg 3 (vLst vNil))
  (vSq (vFor (vRng (vCons (vBlt cLen (vCons (vVar 1) vNil)) vNil)) (.nm 4) (v_law_shuffled_1 q_law_draw))
  (vRet (vVar 3)))))
theorem sim_law_shuffled (q_law_draw : VSpec) : SimS (c_law_shuffled (up q_law_draw)) (v_law_shuffled q_law_draw) := by
  unfold c_law_shuffled v_law_shuffled
  exact (sim_sq (sim_asg (sim_blt sim_list (sim_cons (sim_var 1) sim_nil)))
  (sim_sq (sim_asg (sim_lst sim_nil))
  (sim_sq (sim_for (sim_rng (sim_cons (sim_blt sim_len (sim_cons (sim_var 1) sim_nil)) sim_nil)) (sim_law_shuffled_1 q_law_draw))
  (sim_ret (sim_var 3)))))
def sp_law_shuffled : VSpec := wpOf 5 (v_law_shuffled sp_law_draw)
theorem run_law_shuffled {u0 u1 : V'} {Q : V' → List P → Prop} : sp_law_shuffled [u0, u1] Q = v_law_shuffled sp_law_draw (kvOf [u0, u1] Q) [some u0, some u1, none, none, none] := rfl
theorem good_law_shuffled : Good 5 2 (c_law_shuffled (up sp_law_draw)) (up sp_law_shuffled) := good_up (sim_law_shuffled sp_law_draw)

/- _law_links(d, many, extra): slots d=0 many=1 extra=2 pairs=3 switch=4 left=5 one=6 other=7 step=8 found=9 -/
def c_law_links_1 (p_law_rare : Spec) (p_law_draw : Spec) (p_law_shuffled : Spec) : WS :=
  (wIfS (wNotB (wTst (wCall 2 p_law_rare (wCons (wVar 0) (wCons (wCst (.int 12)) wNil))))) (wDrop (wMet lstTy appM (wVar 3) (wCons (wTup (wCons (wCall 2 p_law_draw (wCons (wVar 0) (wCons (wVar 4) wNil))) (wCons (wVar 4) wNil))) wNil))) wPas)
def v_law_links_1 (q_law_rare : VSpec) (q_law_draw : VSpec) (q_law_shuffled : VSpec) : VS :=
  (vIfS (vNotB (vTst (vCall [.io, .a] q_law_rare (vCons (vVar 0) (vCons (vCst (np 12)) vNil))))) (vDrop (vMut isLst mApp 3 (vCons (vTup (vCons (vCall [.io, .a] q_law_draw (vCons (vVar 0) (vCons (vVar 4) vNil))) (vCons (vVar 4) vNil))) vNil))) vPas)
theorem sim_law_links_1 (q_law_rare : VSpec) (q_law_draw : VSpec) (q_law_shuffled : VSpec) : SimS (c_law_links_1 (up q_law_rare) (up q_law_draw) (up q_law_shuffled)) (v_law_links_1 q_law_rare q_law_draw q_law_shuffled) := by
  unfold c_law_links_1 v_law_links_1
  exact (sim_ifS (sim_notB (sim_tst (sim_call (cv := [.io, .a]) rfl (sim_cons (sim_var 0) (sim_cons (sim_int 12) sim_nil))))) (sim_drop (sim_mut sim_app (sim_cons (sim_tup (sim_cons (sim_call (cv := [.io, .a]) rfl (sim_cons (sim_var 0) (sim_cons (sim_var 4) sim_nil))) (sim_cons (sim_var 4) sim_nil))) sim_nil))) sim_pas)
def c_law_links_2 (p_law_rare : Spec) (p_law_draw : Spec) (p_law_shuffled : Spec) : WS :=
  (wIfS (wTsB (wOp (cmpD .NotIn) (wTup (wCons (wVar 6) (wCons (wVar 7) wNil))) (wVar 3))) (wDrop (wMet lstTy appM (wVar 5) (wCons (wTup (wCons (wVar 6) (wCons (wVar 7) wNil))) wNil))) wPas)
def v_law_links_2 (q_law_rare : VSpec) (q_law_draw : VSpec) (q_law_shuffled : VSpec) : VS :=
  (vIfS (vTsB (vOp (oIn true) (vTup (vCons (vVar 6) (vCons (vVar 7) vNil))) (vVar 3))) (vDrop (vMut isLst mApp 5 (vCons (vTup (vCons (vVar 6) (vCons (vVar 7) vNil))) vNil))) vPas)
theorem sim_law_links_2 (q_law_rare : VSpec) (q_law_draw : VSpec) (q_law_shuffled : VSpec) : SimS (c_law_links_2 (up q_law_rare) (up q_law_draw) (up q_law_shuffled)) (v_law_links_2 q_law_rare q_law_draw q_law_shuffled) := by
  unfold c_law_links_2 v_law_links_2
  exact (sim_ifS (sim_tsB (sim_op (sim_in true) (sim_tup (sim_cons (sim_var 6) (sim_cons (sim_var 7) sim_nil))) (sim_var 3))) (sim_drop (sim_mut sim_app (sim_cons (sim_tup (sim_cons (sim_var 6) (sim_cons (sim_var 7) sim_nil))) sim_nil))) sim_pas)
def c_law_links_3 (p_law_rare : Spec) (p_law_draw : Spec) (p_law_shuffled : Spec) : WS :=
  (wFor (wRng (wCons (wOp opAdd (wVar 6) (wCst (.int 1))) (wCons (wVar 1) wNil))) (.nm 7) (c_law_links_2 p_law_rare p_law_draw p_law_shuffled))
def v_law_links_3 (q_law_rare : VSpec) (q_law_draw : VSpec) (q_law_shuffled : VSpec) : VS :=
  (vFor (vRng (vCons (vOp oAdd (vVar 6) (vCst (np 1))) (vCons (vVar 1) vNil))) (.nm 7) (v_law_links_2 q_law_rare q_law_draw q_law_shuffled))
theorem sim_law_links_3 (q_law_rare : VSpec) (q_law_draw : VSpec) (q_law_shuffled : VSpec) : SimS (c_law_links_3 (up q_law_rare) (up q_law_draw) (up q_law_shuffled)) (v_law_links_3 q_law_rare q_law_draw q_law_shuffled) := by
  unfold c_law_links_3 v_law_links_3
  exact (sim_for (sim_rng (sim_cons (sim_op sim_add (sim_var 6) (sim_int 1)) (sim_cons (sim_var 1) sim_nil))) (sim_law_links_2 q_law_rare q_law_draw q_law_shuffled))
def c_law_links_4 (p_law_rare : Spec) (p_law_draw : Spec) (p_law_shuffled : Spec) : WS :=
  (wIfS (wTsB (wOp (cmpD .Gt) (wBlt lenC (wCons (wVar 5) wNil)) (wCst (.int 0)))) (wDrop (wMet lstTy appM (wVar 3) (wCons (wMet lstTy popAtM (wVar 5) (wCons (wCall 2 p_law_draw (wCons (wVar 0) (wCons (wBlt lenC (wCons (wVar 5) wNil)) wNil))) wNil)) wNil))) wPas)
def v_law_links_4 (q_law_rare : VSpec) (q_law_draw : VSpec) (q_law_shuffled : VSpec) : VS :=
  (vIfS (vTsB (vOp oGt (vBlt cLen (vCons (vVar 5) vNil)) (vCst (np 0)))) (vDrop (vMut isLst mApp 3 (vCons (vMut isLst mPopAt 5 (vCons (vCall [.io, .a] q_law_draw (vCons (vVar 0) (vCons (vBlt cLen (vCons (vVar 5) vNil)) vNil))) vNil)) vNil))) vPas)
theorem sim_law_links_4 (q_law_rare : VSpec) (q_law_draw : VSpec) (q_law_shuffled : VSpec) : SimS (c_law_links_4 (up q_law_rare) (up q_law_draw) (up q_law_shuffled)) (v_law_links_4 q_law_rare q_law_draw q_law_shuffled) := by
  unfold c_law_links_4 v_law_links_4
  exact (sim_ifS (sim_tsB (sim_op sim_gt (sim_blt sim_len (sim_cons (sim_var 5) sim_nil)) (sim_int 0))) (sim_drop (sim_mut sim_app (sim_cons (sim_mut sim_popAt (sim_cons (sim_call (cv := [.io, .a]) rfl (sim_cons (sim_var 0) (sim_cons (sim_blt sim_len (sim_cons (sim_var 5) sim_nil)) sim_nil))) sim_nil)) sim_nil))) sim_pas)
def c_law_links_5 (p_law_rare : Spec) (p_law_draw : Spec) (p_law_shuffled : Spec) : WS :=
  (wDrop (wMet lstTy appM (wVar 9) (wCons (wIf (wTsB (wOp (cmpD .Eq) (wCall 2 p_law_draw (wCons (wVar 0) (wCons (wCst (.int 2)) wNil))) (wCst (.int 0)))) (wTup (wCons (wVar 6) (wCons (wVar 7) wNil))) (wTup (wCons (wVar 7) (wCons (wVar 6) wNil)))) wNil)))
def v_law_links_5 (q_law_rare : VSpec) (q_law_draw : VSpec) (q_law_shuffled : VSpec) : VS :=
  (vDrop (vMut isLst mApp 9 (vCons (vIf (vTsB (vOp (oEq false) (vCall [.io, .a] q_law_draw (vCons (vVar 0) (vCons (vCst (np 2)) vNil))) (vCst (np 0)))) (vTup (vCons (vVar 6) (vCons (vVar 7) vNil))) (vTup (vCons (vVar 7) (vCons (vVar 6) vNil)))) vNil)))
theorem sim_law_links_5 (q_law_rare : VSpec) (q_law_draw : VSpec) (q_law_shuffled : VSpec) : SimS (c_law_links_5 (up q_law_rare) (up q_law_draw) (up q_law_shuffled)) (v_law_links_5 q_law_rare q_law_draw q_law_shuffled) := by
  unfold c_law_links_5 v_law_links_5
  exact (sim_drop (sim_mut sim_app (sim_cons (sim_if (sim_tsB (sim_op (sim_eq false) (sim_call (cv := [.io, .a]) rfl (sim_cons (sim_var 0) (sim_cons (sim_int 2) sim_nil))) (sim_int 0))) (sim_tup (sim_cons (sim_var 6) (sim_cons (sim_var 7) sim_nil))) (sim_tup (sim_cons (sim_var 7) (sim_cons (sim_var 6) sim_nil)))) sim_nil)))
def c_law_links (p_law_rare : Spec) (p_law_draw : Spec) (p_law_shuffled : Spec) : WS :=
  (wSq (wAsg 3 (wLst wNil))
  (wSq (wFor (wRng (wCons (wCst (.int 1)) (wCons (wVar 1) wNil))) (.nm 4) (c_law_links_1 p_law_rare p_law_draw p_law_shuffled))
  (wSq (wAsg 5 (wLst wNil))
  (wSq (wFor (wRng (wCons (wVar 1) wNil)) (.nm 6) (c_law_links_3 p_law_rare p_law_draw p_law_shuffled))
  (wSq (wFor (wRng (wCons (wVar 2) wNil)) (.nm 8) (c_law_links_4 p_law_rare p_law_draw p_law_shuffled))
  (wSq (wAsg 9 (wLst wNil))
  (wSq (wFor (wSeqI (wCall 2 p_law_shuffled (wCons (wVar 0) (wCons (wVar 3) wNil)))) (.tp [6, 7]) (c_law_links_5 p_law_rare p_law_draw p_law_shuffled))
  (wRet (wVar 9)))))))))
def v_law_links (q_law_rare : VSpec) (q_law_draw : VSpec) (q_law_shuffled : VSpec) : VS :=
  (vSq (vAsg 3 (vLst vNil))
  (vSq (vFor (vRng (vCons (vCst (np 1)) (vCons (vVar 1) vNil))) (.nm 4) (v_law_links_1 q_law_rare q_law_draw q_law_shuffled))
  (vSq (vAsg 5 (vLst vNil))
  (vSq (vFor (vRng (vCons (vVar 1) vNil)) (.nm 6) (v_law_links_3 q_law_rare q_law_draw q_law_shuffled))
  (vSq (vFor (vRng (vCons (vVar 2) vNil)) (.nm 8) (v_law_links_4 q_law_rare q_law_draw q_law_shuffled))
  (vSq (vAsg 9 (vLst vNil))
  (vSq (vFor (vSeqI (vCall [.io, .a] q_law_shuffled (vCons (vVar 0) (vCons (vVar 3) vNil)))) (.tp [6, 7]) (v_law_links_5 q_law_rare q_law_draw q_law_shuffled))
  (vRet (vVar 9)))))))))
theorem sim_law_links (q_law_rare : VSpec) (q_law_draw : VSpec) (q_law_shuffled : VSpec) : SimS (c_law_links (up q_law_rare) (up q_law_draw) (up q_law_shuffled)) (v_law_links q_law_rare q_law_draw q_law_shuffled) := by
  unfold c_law_links v_law_links
  exact (sim_sq (sim_asg (sim_lst sim_nil))
  (sim_sq (sim_for (sim_rng (sim_cons (sim_int 1) (sim_cons (sim_var 1) sim_nil))) (sim_law_links_1 q_law_rare q_law_draw q_law_shuffled))
  (sim_sq (sim_asg (sim_lst sim_nil))
  (sim_sq (sim_for (sim_rng (sim_cons (sim_var 1) sim_nil)) (sim_law_links_3 q_law_rare q_law_draw q_law_shuffled))
  (sim_sq (sim_for (sim_rng (sim_cons (sim_var 2) sim_nil)) (sim_law_links_4 q_law_rare q_law_draw q_law_shuffled))
  (sim_sq (sim_asg (sim_lst sim_nil))
  (sim_sq (sim_for (sim_seqI (sim_call (cv := [.io, .a]) rfl (sim_cons (sim_var 0) (sim_cons (sim_var 3) sim_nil)))) (sim_law_links_5 q_law_rare q_law_draw q_law_shuffled))
  (sim_ret (sim_var 9)))))))))
def sp_law_links : VSpec := wpOf 10 (v_law_links sp_law_rare sp_law_draw sp_law_shuffled)
theorem run_law_links {u0 u1 u2 : V'} {Q : V' → List P → Prop} : sp_law_links [u0, u1, u2] Q = v_law_links sp_law_rare sp_law_draw sp_law_shuffled (kvOf [u0, u1, u2] Q) [some u0, some u1, some u2, none, none, none, none, none, none, none] := rfl
theorem good_law_links : Good 10 3 (c_law_links (up sp_law_rare) (up sp_law_draw) (up sp_law_shuffled)) (up sp_law_links) := good_up (sim_law_links sp_law_rare sp_law_draw sp_law_shuffled)


end WW


set_option Elab.async false
set_option linter.all false
set_option maxRecDepth 100000
set_option maxHeartbeats 4000000
set_option autoImplicit false
namespace WW
open PySem PySem.Spec PyProof.Rows L2
local macro_rules | `(tactic| walk_at "w") => `(tactic| try simp -dsimp (disch := first | omega | (simp only [List.length_cons, List.length_nil]; omega)) only [↓fn_data, ↓fn_marks, ↓fn_width, ↓fn_switches, ↓fn_rooms, ↓fn_kinds, ↓fn_links, ↓fn_link_rooms, ↓fn_hosts, ↓fn_homes, ↓fn_tenants, ↓fn_relays, ↓fn_data_care, ↓fn_mark_care, ↓fn_near_links, ↓fn_near_hosts, mn_links_at, mn_hosts_at, mn_far, mn_host_door, mn_host_at, mn_link_lot, mn_form, ↓av_isi, ↓isi_non, ↓isi_bl, ↓isi_int, ↓isi_str, ↓isi_tup, ↓isi_lst, isiB, ↓av_fld, ↓av_fset, ↓av_mth, ↓av_callV, ↓av_mak, ↓av_var, ↓av_cst, ↓av_op, ↓av_neg, ↓av_notV, ↓av_andV, ↓av_orV, ↓av_chain, ↓av_if, ↓av_nil, ↓av_cons, ↓av_tup, ↓av_lst, ↓av_noP, ↓av_part, ↓av_slc, ↓av_bits, ↓av_tst, ↓av_tsB, ↓av_notB, ↓av_andB, ↓av_orB, ↓av_yes, ↓av_blt, ↓av_sset, ↓av_lstR, ↓av_tupR, ↓av_metR, ↓av_mut, ↓av_get, ↓av_srtK, ↓av_lc, ↓av_call, ↓av_seqI, ↓av_enum, ↓av_rng, ↓av_asg, ↓av_asgP, ↓av_set, ↓av_drop, ↓av_ret, ↓av_retN, ↓av_brk, ↓av_cnt, ↓av_pas, ↓av_sq, ↓av_ifS, ↓av_for, ↓av_forN, ↓av_forD, un_d, d_0, d_1, g_1, g_2, st_dct, ixv_dct, ↓hold1, ↓cnd_t, ↓cnd_f, cnd_pos, cnd_neg, ↓rd_slot, ↓rd_v, rds, val_p, val_b, val_o, val_io, own_o, own_io, re_o, re_io, mp_some, ↓src_v, ↓src_s, un_none, lock_none, ↓unK_none, ↓unK_some, lock_some, un_some, ↓asg_s, ↓asg_v', ↓ret_v, ↓ret_s, ↓kv_nx, ↓kv_rt, kL_nx, kL_ct, kL_bk, kL_rt, kL_ex, kS_nx, kS_ct, kS_bk, kS_rt, kS_ex, ↓kU_nx, ↓kU_ct, ↓kU_bk, ↓kU_rt, ↓kD_nx, ↓kD_ct, ↓kD_bk, kD_ex, ↓gv_some, ↓o_add, ↓o_sub, ↓o_and, ↓o_or, ↓o_xor, ↓o_shl1, ↓o_shr, ↓o_mod, ↓o_mulS, ↓o_divS, ↓o_lt, ↓o_le, ↓o_gt, ↓o_ge, ↓o_eq, ↓o_ne, ↓o_is, ↓o_isnot, nn_int, nn_non, nn_tup, nn_str, nn_lst, nn_bl, nn_obj, nn_dct, ↓sz_le', ↓sz_lt',  ↓t_bl, ↓t_np, ↓t_tup, ↓t_lst, ↓b_bl, ↓i_int, ↓i_np, ↓i_np2, ↓c_int1, ↓c_len1, ↓c_len2, ↓c_tup1, ↓c_tup2, ↓c_lst1, ↓c_lst2, ↓c_lst3, ↓c_str1, ↓c_strI, cut_to, cut_from, List.take_succ_cons, List.take_zero, List.drop_succ_cons, List.drop_zero, List.take_nil, List.drop_nil, ↓sl_tup, ↓sl_lst, ↓sl_fro, ↓a_lst, ↓a_tup, ↓a_str, ↓m_app', is_lst, is_tup, is_tupL, ba_tup, ba_lst, it_tup, it_lst, ↓ix_tup, ↓ix_lst, st_lst, lk, pt, take1, takeL, tks, ioSl, ioOk, ioOk1, clash, cvt, putIO, outs, bor, bindVP, bindVL, pasAll, pasB, wipeV, restV, Option.map_some, Option.map_none, List.all_cons, List.all_nil, Bool.and_true, Bool.true_and, Bool.not_true, Bool.not_false, Bool.false_and, Bool.and_false, true_and, and_true, reduceIte, decide_true, decide_false, List.map_cons, List.map_nil, List.length_cons, List.length_nil, List.cons_append, List.nil_append, List.append_nil, List.replicate, List.getElem?_cons_zero, List.getElem?_cons_succ, List.set_cons_zero, List.set_cons_succ, Nat.reduceBEq, Nat.reduceSub, Nat.reduceAdd, Nat.reduceMul, Bool.not_not])
local macro_rules | `(tactic| walk_at "wh") => `(tactic| try simp -dsimp (disch := first | omega | (simp only [List.length_cons, List.length_nil]; omega)) only [↓fn_data, ↓fn_marks, ↓fn_width, ↓fn_switches, ↓fn_rooms, ↓fn_kinds, ↓fn_links, ↓fn_link_rooms, ↓fn_hosts, ↓fn_homes, ↓fn_tenants, ↓fn_relays, ↓fn_data_care, ↓fn_mark_care, ↓fn_near_links, ↓fn_near_hosts, mn_links_at, mn_hosts_at, mn_far, mn_host_door, mn_host_at, mn_link_lot, mn_form, ↓av_isi, ↓isi_non, ↓isi_bl, ↓isi_int, ↓isi_str, ↓isi_tup, ↓isi_lst, isiB, ↓av_fld, ↓av_fset, ↓av_mth, ↓av_callV, ↓av_mak, ↓av_var, ↓av_cst, ↓av_op, ↓av_neg, ↓av_notV, ↓av_andV, ↓av_orV, ↓av_chain, ↓av_if, ↓av_nil, ↓av_cons, ↓av_tup, ↓av_lst, ↓av_noP, ↓av_part, ↓av_slc, ↓av_bits, ↓av_tst, ↓av_tsB, ↓av_notB, ↓av_andB, ↓av_orB, ↓av_yes, ↓av_blt, ↓av_sset, ↓av_lstR, ↓av_tupR, ↓av_metR, ↓av_mut, ↓av_get, ↓av_srtK, ↓av_lc, ↓av_call, ↓av_seqI, ↓av_enum, ↓av_rng, ↓av_asg, ↓av_asgP, ↓av_set, ↓av_drop, ↓av_ret, ↓av_retN, ↓av_brk, ↓av_cnt, ↓av_pas, ↓av_sq, ↓av_ifS, ↓av_for, ↓av_forN, ↓av_forD, un_d, d_0, d_1, g_1, g_2, st_dct, ixv_dct, ↓hold1, ↓cnd_t, ↓cnd_f, cnd_pos, cnd_neg, ↓rd_slot, ↓rd_v, rds, val_p, val_b, val_o, val_io, own_o, own_io, re_o, re_io, mp_some, ↓src_v, ↓src_s, un_none, lock_none, ↓unK_none, ↓unK_some, lock_some, un_some, ↓asg_s, ↓asg_v', ↓ret_v, ↓ret_s, ↓kv_nx, ↓kv_rt, kL_nx, kL_ct, kL_bk, kL_rt, kL_ex, kS_nx, kS_ct, kS_bk, kS_rt, kS_ex, ↓kU_nx, ↓kU_ct, ↓kU_bk, ↓kU_rt, ↓kD_nx, ↓kD_ct, ↓kD_bk, kD_ex, ↓gv_some, ↓o_add, ↓o_sub, ↓o_and, ↓o_or, ↓o_xor, ↓o_shl1, ↓o_shr, ↓o_mod, ↓o_mulS, ↓o_divS, ↓o_lt, ↓o_le, ↓o_gt, ↓o_ge, ↓o_eq, ↓o_ne, ↓o_is, ↓o_isnot, nn_int, nn_non, nn_tup, nn_str, nn_lst, nn_bl, nn_obj, nn_dct, ↓sz_le', ↓sz_lt',  ↓t_bl, ↓t_np, ↓t_tup, ↓t_lst, ↓b_bl, ↓i_int, ↓i_np, ↓i_np2, ↓c_int1, ↓c_len1, ↓c_len2, ↓c_tup1, ↓c_tup2, ↓c_lst1, ↓c_lst2, ↓c_lst3, ↓c_str1, ↓c_strI, cut_to, cut_from, List.take_succ_cons, List.take_zero, List.drop_succ_cons, List.drop_zero, List.take_nil, List.drop_nil, ↓sl_tup, ↓sl_lst, ↓sl_fro, ↓a_lst, ↓a_tup, ↓a_str, ↓m_app', is_lst, is_tup, is_tupL, ba_tup, ba_lst, it_tup, it_lst, ↓ix_tup, ↓ix_lst, st_lst, lk, pt, take1, takeL, tks, ioSl, ioOk, ioOk1, clash, cvt, putIO, outs, bor, bindVP, bindVL, pasAll, pasB, wipeV, restV, Option.map_some, Option.map_none, List.all_cons, List.all_nil, Bool.and_true, Bool.true_and, Bool.not_true, Bool.not_false, Bool.false_and, Bool.and_false, true_and, and_true, reduceIte, decide_true, decide_false, List.map_cons, List.map_nil, List.length_cons, List.length_nil, List.cons_append, List.nil_append, List.append_nil, List.replicate, List.getElem?_cons_zero, List.getElem?_cons_succ, List.set_cons_zero, List.set_cons_succ, Nat.reduceBEq, Nat.reduceSub, Nat.reduceAdd, Nat.reduceMul, Bool.not_not, *])
theorem erase_map {α β : Type} (g : α → β) : ∀ (l : List α) (i : Nat), (l.map g).eraseIdx i = (l.eraseIdx i).map g
  | [], _ => rfl
  | x :: r, 0 => rfl
  | x :: r, i + 1 => by
    show g x :: (r.map g).eraseIdx i = g x :: (r.eraseIdx i).map g
    rw [erase_map g r i]
theorem erase_perm {α : Type} : ∀ (l : List α) (i : Nat) (h : i < l.length), (l[i] :: l.eraseIdx i).Perm l
  | [], _, h => absurd h (Nat.not_lt_zero _)
  | x :: r, 0, _ => List.Perm.refl _
  | x :: r, i + 1, h => (List.Perm.swap x _ _).trans ((erase_perm r i (Nat.lt_of_succ_lt_succ h)).cons x)
theorem law_shuffled {α : Type} {g : α → P} {xs : List α} {x : P} {u : V'} {Q : V' → List P → Prop} (hD : Dr x) (hu : Rd' u (.lst (xs.map g))) (hx : xs.length ≤ 1000) (q : ∀ (ys : List α) x', ys.Perm xs → Dr x' → Q (.o (.lst (ys.map g))) [x']) : sp_law_shuffled [.io x, u] Q := by
  rw [run_law_shuffled]; unfold v_law_shuffled
  rcases hu with rfl | rfl
  all_goals
    walk_at "w"
    rw [List.length_map]
    walk_at "w"
    refine forVn (fun i E => ∃ (x : P) (lf fd : List α) (a4 : Option V'), Dr x ∧ (fd ++ lf).Perm xs ∧ fd.length = i ∧ E = [some (.io x), some _, some (.o (.lst (lf.map g))), some (.o (.lst (fd.map g))), a4]) ⟨x, xs, [], _, hD, List.Perm.refl _, rfl, rfl⟩ (fun i E N hi hI hN => ?_) (fun E hI => ?_)
    · obtain ⟨x, lf, fd, a4, hD, hp, hf, rfl⟩ := hI
      have hl := hp.length_eq
      rw [List.length_append] at hl
      unfold v_law_shuffled_1
      walk_at "w"
      rw [List.length_map]
      refine law_draw hD (lst64 (by omega)) fun r x h1 h2 hD => ?_
      have hr := draw_lt h1 h2 (by omega : 1 ≤ lf.length)
      walk_at "w"
      refine m_popAt (x := g lf[r]) (by rw [List.getElem?_map, List.getElem?_eq_getElem hr]; rfl) (by rw [List.length_map]; omega) ?_
      walk_at "w"
      rw [List.length_map]
      refine ⟨sz_lt (by omega), ?_⟩
      refine hN _ ⟨x, lf.eraseIdx r, fd ++ [lf[r]], _, hD, ?_, by rw [List.length_append, hf]; rfl, by rw [List.map_append, erase_map]; rfl⟩
      refine List.Perm.trans ?_ hp
      rw [List.append_assoc]
      refine List.Perm.append_left fd ?_
      exact erase_perm lf r hr
    · obtain ⟨x, lf, fd, a4, hD, hp, hf, rfl⟩ := hI
      walk_at "w"
      refine q fd x ?_ hD
      have hl := hp.length_eq
      rw [List.length_append] at hl
      have : lf = [] := List.length_eq_zero_iff.mp (by omega)
      subst this
      rw [List.append_nil] at hp
      exact hp
theorem cln_pr (e : Nat × Nat) (k : Nat) : cln (k + 1) (prP e) = true := by
  unfold prP cln clns clns clns
  rw [cln_np, cln_np]
  rfl
theorem prP_inj {e f : Nat × Nat} : prP e = prP f ↔ e = f := by
  constructor
  · intro h
    unfold prP at h
    injection h with h
    injection h with h1 h2
    injection h2 with h2 _
    exact Prod.ext (np_inj.mp h1) (np_inj.mp h2)
  · rintro rfl; rfl
theorem in_pairs {e : Nat × Nat} {ls : List (Nat × Nat)} {neg : Bool} {Q : V' → Prop} (q : Q (.p (.bl (sg neg (decide (e ∈ ls)))))) : oIn neg (prP e) (.lst (ls.map prP)) Q := by
  refine o_inC (cln_pr e 63) (fun y hy => ?_) ?_
  · obtain ⟨f, _, rfl⟩ := List.mem_map.mp hy
    exact cln_pr f 62
  · have : decide (prP e ∈ ls.map prP) = decide (e ∈ ls) := decide_eq_decide.mpr ⟨fun h => by
      obtain ⟨f, hf, e'⟩ := List.mem_map.mp h
      rw [prP_inj.mp e'] at hf
      exact hf, fun h => List.mem_map.mpr ⟨e, h, rfl⟩⟩
    rw [this]
    exact q
def UpTo (m : Nat) (ls : List (Nat × Nat)) : Prop := ∀ e ∈ ls, e.1 < e.2 ∧ e.2 < m
theorem UpTo.snoc {m : Nat} {ls : List (Nat × Nat)} {e : Nat × Nat} (h : UpTo m ls) (he : e.1 < e.2 ∧ e.2 < m) : UpTo m (ls ++ [e]) := fun f hf => by
  rcases List.mem_append.mp hf with h' | h'
  · exact h f h'
  · cases List.mem_singleton.mp h'; exact he
def EndsOk (m : Nat) (ls : List (Nat × Nat)) : Prop := ∀ e ∈ ls, e.1 < m ∧ e.2 < m ∧ e.1 ≠ e.2
theorem law_links {x : P} {m ex : Nat} {Q : V' → List P → Prop} (hD : Dr x) (hm : m ≤ 20) (he : ex ≤ 100) (q : ∀ ls x', EndsOk m ls → ls.length ≤ m - 1 + ex → Dr x' → Q (.o (.lst (ls.map prP))) [x']) : sp_law_links [.io x, .p (np m), .p (np ex)] Q := by
  rw [run_law_links]; unfold v_law_links
  walk_at "w"
  refine forVn (fun i E => ∃ x ps a4, Dr x ∧ ps.length ≤ i ∧ UpTo m ps ∧ E = [some (.io x), some (.p (np m)), some (.p (np ex)), some (.o (.lst (ps.map prP))), a4, none, none, none, none, none]) ⟨x, [], _, hD, Nat.le_refl _, (fun _ h => nomatch h), rfl⟩ (fun i E N hi hI hN => ?_) (fun E hI => ?_)
  · obtain ⟨x, ps, a4, hD, hl, hu, rfl⟩ := hI
    unfold v_law_links_1
    walk_at "w"
    refine law_rare hD (by decide) fun b x hD => ?_
    walk_at "w"
    cases b with
    | true =>
      walk_at "w"
      exact hN _ ⟨x, ps, _, hD, by omega, hu, rfl⟩
    | false =>
      walk_at "w"
      refine law_draw hD (lst64 (by omega)) fun a x h1 h2 hD => ?_
      have ha := draw_lt h1 h2 (by omega)
      walk_at "w"
      refine ⟨sz_lt (by rw [List.length_map]; omega), ?_⟩
      exact hN _ ⟨x, ps ++ [(a, 1 + i)], _, hD, by rw [List.length_append, List.length_singleton]; omega, hu.snoc ⟨ha, by show 1 + i < m; omega⟩, by rw [List.map_append]; rfl⟩
  obtain ⟨x, ps, a4, hD, hl, hu, rfl⟩ := hI
  walk_at "w"
  refine forVn (fun i E => ∃ lf a6 a7, lf.length ≤ i * m ∧ UpTo m lf ∧ E = [some (.io x), some (.p (np m)), some (.p (np ex)), some (.o (.lst (ps.map prP))), a4, some (.o (.lst (lf.map prP))), a6, a7, none, none]) ⟨[], _, _, Nat.zero_le _, (fun _ h => nomatch h), rfl⟩ (fun i E N hi hI hN => ?_) (fun E hI => ?_)
  · obtain ⟨lf, a6, a7, hll, hlu, rfl⟩ := hI
    unfold v_law_links_3
    walk_at "w"
    refine forVn (fun j E => ∃ lf a7, lf.length ≤ i * m + j ∧ UpTo m lf ∧ E = [some (.io x), some (.p (np m)), some (.p (np ex)), some (.o (.lst (ps.map prP))), a4, some (.o (.lst (lf.map prP))), some (.p (np i)), a7, none, none]) ⟨lf, _, hll, hlu, rfl⟩ (fun j E N hj hI hN => ?_) (fun E hI => ?_)
    · obtain ⟨lf, a7, hll, hlu, rfl⟩ := hI
      have hmm : i * m ≤ 20 * 20 := Nat.mul_le_mul (by omega) hm
      unfold v_law_links_2
      walk_at "w"
      refine in_pairs (e := (i, i + 1 + j)) ?_
      walk_at "w"
      rw [sg_t]
      refine cnd_no (fun h => ?_) (fun h => ?_)
      · walk_at "w"
        exact hN _ ⟨lf, _, by omega, hlu, rfl⟩
      · walk_at "w"
        refine ⟨sz_lt (by rw [List.length_map]; omega), ?_⟩
        exact hN _ ⟨lf ++ [(i, i + 1 + j)], _, by rw [List.length_append, List.length_singleton]; omega, hlu.snoc ⟨by show i < i + 1 + j; omega, by show i + 1 + j < m; omega⟩, by rw [List.map_append]; rfl⟩
    · obtain ⟨lf, a7, hll, hlu, rfl⟩ := hI
      walk_at "w"
      exact hN _ ⟨lf, _, _, by rw [Nat.succ_mul]; omega, hlu, rfl⟩
  obtain ⟨lf, a6, a7, hll, hlu, rfl⟩ := hI
  have hmm : m * m ≤ 20 * 20 := Nat.mul_le_mul hm hm
  walk_at "w"
  refine forVn (fun i E => ∃ x ps lf a8, Dr x ∧ ps.length ≤ m - 1 + i ∧ UpTo m ps ∧ lf.length ≤ 400 ∧ UpTo m lf ∧ E = [some (.io x), some (.p (np m)), some (.p (np ex)), some (.o (.lst (ps.map prP))), a4, some (.o (.lst (lf.map prP))), a6, a7, a8, none]) ⟨x, ps, lf, _, hD, by omega, hu, by omega, hlu, rfl⟩ (fun i E N hi hI hN => ?_) (fun E hI => ?_)
  · obtain ⟨x, ps, lf, a8, hD, hl, hu, hll, hlu, rfl⟩ := hI
    unfold v_law_links_4
    walk_at "w"
    rw [List.length_map]
    refine cnd_by (fun h => ?_) (fun h => ?_)
    · walk_at "w"
      rw [List.length_map]
      refine law_draw hD (lst64 (by omega)) fun r x h1 h2 hD => ?_
      have hr := draw_lt h1 h2 (by omega : 1 ≤ lf.length)
      walk_at "w"
      refine m_popAt (x := prP lf[r]) (by rw [List.getElem?_map, List.getElem?_eq_getElem hr]; rfl) (by rw [List.length_map]; omega) ?_
      walk_at "w"
      refine ⟨sz_lt (by rw [List.length_map]; omega), ?_⟩
      refine hN _ ⟨x, ps ++ [lf[r]], lf.eraseIdx r, _, hD, by rw [List.length_append, List.length_singleton]; omega, hu.snoc (hlu _ (List.getElem_mem _)), ?_, fun e he => hlu e ((List.eraseIdx_sublist lf r).subset he), by rw [List.map_append, erase_map]; rfl⟩
      exact Nat.le_trans (List.eraseIdx_sublist lf r).length_le hll
    · walk_at "w"
      exact hN _ ⟨x, ps, lf, _, hD, by omega, hu, hll, hlu, rfl⟩
  obtain ⟨x, ps, lf, a8, hD, hl, hu, hll, hlu, rfl⟩ := hI
  walk_at "w"
  refine law_shuffled hD (.inr rfl) (by omega) fun ys x hp hD => ?_
  have hyl := hp.length_eq
  walk_at "w"
  refine forV (fun dn E => ∃ x fd a6 a7, Dr x ∧ fd.length = dn.length ∧ EndsOk m fd ∧ E = [some (.io x), some (.p (np m)), some (.p (np ex)), some (.o (.lst (ps.map prP))), a4, some (.o (.lst (lf.map prP))), a6, a7, a8, some (.o (.lst (fd.map prP)))]) ⟨x, [], _, _, hD, rfl, (fun _ h => nomatch h), rfl⟩ (fun i dn e r E N eq hi hI hN => ?_) (fun E hI => ?_)
  · obtain ⟨x, fd, a6, a7, hD, hf, hfe, rfl⟩ := hI
    have hee := hu e (hp.subset (by rw [eq]; simp))
    have hlen : ys.length = dn.length + (r.length + 1) := by rw [eq, List.length_append, List.length_cons]
    have snoc : ∀ f : Nat × Nat, (f.1 < m ∧ f.2 < m ∧ f.1 ≠ f.2) → EndsOk m (fd ++ [f]) := fun f hf g hg => by
      rcases List.mem_append.mp hg with h | h
      · exact hfe g h
      · cases List.mem_singleton.mp h; exact hf
    unfold v_law_links_5 prP
    walk_at "w"
    refine law_draw hD (lst64 (by decide)) fun c x _ _ hD => ?_
    walk_at "w"
    refine cnd_by (fun h => ?_) (fun h => ?_)
    · walk_at "w"
      refine ⟨sz_lt (by rw [List.length_map]; omega), ?_⟩
      exact hN _ ⟨x, fd ++ [e], _, _, hD, by rw [List.length_append, List.length_append, hf], snoc e ⟨by omega, by omega, by omega⟩, by rw [List.map_append]; rfl⟩
    · walk_at "w"
      refine ⟨sz_lt (by rw [List.length_map]; omega), ?_⟩
      exact hN _ ⟨x, fd ++ [(e.2, e.1)], _, _, hD, by rw [List.length_append, List.length_append, hf, List.length_singleton, List.length_singleton], snoc (e.2, e.1) ⟨by show e.2 < m; omega, by show e.1 < m; omega, by show e.2 ≠ e.1; omega⟩, by rw [List.map_append]; rfl⟩
  · obtain ⟨x, fd, a6, a7, hD, hf, hfe, rfl⟩ := hI
    walk_at "w"
    exact q fd x hfe (by omega) hD
def TxOk (s : Str) : Prop := cln 0 (.str s) = true
end WW


set_option Elab.async false
set_option linter.all false
set_option maxRecDepth 100000
set_option maxHeartbeats 4000000
set_option autoImplicit false
namespace WW
open PySem PySem.Spec PyProof.Rows L2
/- _law_parts(d): slots d=0 data=1 marks=2 many=3 whole=4 switches=5 k=6 kind=7 links=8 pair=9 hosts=10 -/
def c_law_parts_1 (p_law_draw : Spec) (p_law_links : Spec) (p_law_pick : Spec) : WS :=
  (wSq (wAsg 7 (wTup (wCons (wCall 2 p_law_draw (wCons (wVar 0) (wCons (wVar 4) wNil))) (wCons (wCall 2 p_law_draw (wCons (wVar 0) (wCons (wVar 4) wNil))) (wCons (wOp opAdd (wCst (.int 1)) (wCall 2 p_law_draw (wCons (wVar 0) (wCons (wCst (.int 8)) wNil)))) (wCons (wCall 2 p_law_draw (wCons (wVar 0) (wCons (wCst (.int 2)) wNil))) wNil))))))
  (wDrop (wMet lstTy appM (wVar 5) (wCons (wTup (wCons (wOp opAdd (wCst (.str (Str.ofString "n"))) (wBlt strC (wCons (wVar 6) wNil))) (wCons (wCall 2 p_law_draw (wCons (wVar 0) (wCons (wCst (.int 401)) wNil))) (wCons (wVar 7) wNil)))) wNil))))
def v_law_parts_1 (q_law_draw : VSpec) (q_law_links : VSpec) (q_law_pick : VSpec) : VS :=
  (vSq (vAsg 7 (vTup (vCons (vCall [.io, .a] q_law_draw (vCons (vVar 0) (vCons (vVar 4) vNil))) (vCons (vCall [.io, .a] q_law_draw (vCons (vVar 0) (vCons (vVar 4) vNil))) (vCons (vOp oAdd (vCst (np 1)) (vCall [.io, .a] q_law_draw (vCons (vVar 0) (vCons (vCst (np 8)) vNil)))) (vCons (vCall [.io, .a] q_law_draw (vCons (vVar 0) (vCons (vCst (np 2)) vNil))) vNil))))))
  (vDrop (vMut isLst mApp 5 (vCons (vTup (vCons (vOp oAdd (vCst (.str (Str.ofString "n"))) (vBlt cStr (vCons (vVar 6) vNil))) (vCons (vCall [.io, .a] q_law_draw (vCons (vVar 0) (vCons (vCst (np 401)) vNil))) (vCons (vVar 7) vNil)))) vNil))))
theorem sim_law_parts_1 (q_law_draw : VSpec) (q_law_links : VSpec) (q_law_pick : VSpec) : SimS (c_law_parts_1 (up q_law_draw) (up q_law_links) (up q_law_pick)) (v_law_parts_1 q_law_draw q_law_links q_law_pick) := by
  unfold c_law_parts_1 v_law_parts_1
  exact (sim_sq (sim_asg (sim_tup (sim_cons (sim_call (cv := [.io, .a]) rfl (sim_cons (sim_var 0) (sim_cons (sim_var 4) sim_nil))) (sim_cons (sim_call (cv := [.io, .a]) rfl (sim_cons (sim_var 0) (sim_cons (sim_var 4) sim_nil))) (sim_cons (sim_op sim_add (sim_int 1) (sim_call (cv := [.io, .a]) rfl (sim_cons (sim_var 0) (sim_cons (sim_int 8) sim_nil)))) (sim_cons (sim_call (cv := [.io, .a]) rfl (sim_cons (sim_var 0) (sim_cons (sim_int 2) sim_nil))) sim_nil))))))
  (sim_drop (sim_mut sim_app (sim_cons (sim_tup (sim_cons (sim_op sim_add (sim_str _) (sim_blt sim_strC (sim_cons (sim_var 6) sim_nil))) (sim_cons (sim_call (cv := [.io, .a]) rfl (sim_cons (sim_var 0) (sim_cons (sim_int 401) sim_nil))) (sim_cons (sim_var 7) sim_nil)))) sim_nil))))
def c_law_parts_2 (p_law_draw : Spec) (p_law_links : Spec) (p_law_pick : Spec) : WS :=
  (wDrop (wMet lstTy appM (wVar 10) (wCons (wTup (wCons (wOp opAdd (wCst (.str (Str.ofString "m"))) (wBlt strC (wCons (wVar 6) wNil))) (wCons (wCall 2 p_law_draw (wCons (wVar 0) (wCons (wVar 3) wNil))) (wCons (wCall 2 p_law_pick (wCons (wVar 0) (wCons (wLst (wCons (wCst (.str (Str.ofString "red"))) (wCons (wCst (.str (Str.ofString "blue"))) (wCons (wCst (.str (Str.ofString "all"))) wNil)))) wNil))) (wCons (wCall 2 p_law_draw (wCons (wVar 0) (wCons (wCst (.int 2)) wNil))) wNil))))) wNil)))
def v_law_parts_2 (q_law_draw : VSpec) (q_law_links : VSpec) (q_law_pick : VSpec) : VS :=
  (vDrop (vMut isLst mApp 10 (vCons (vTup (vCons (vOp oAdd (vCst (.str (Str.ofString "m"))) (vBlt cStr (vCons (vVar 6) vNil))) (vCons (vCall [.io, .a] q_law_draw (vCons (vVar 0) (vCons (vVar 3) vNil))) (vCons (vCall [.io, .a] q_law_pick (vCons (vVar 0) (vCons (vLst (vCons (vCst (.str (Str.ofString "red"))) (vCons (vCst (.str (Str.ofString "blue"))) (vCons (vCst (.str (Str.ofString "all"))) vNil)))) vNil))) (vCons (vCall [.io, .a] q_law_draw (vCons (vVar 0) (vCons (vCst (np 2)) vNil))) vNil))))) vNil)))
theorem sim_law_parts_2 (q_law_draw : VSpec) (q_law_links : VSpec) (q_law_pick : VSpec) : SimS (c_law_parts_2 (up q_law_draw) (up q_law_links) (up q_law_pick)) (v_law_parts_2 q_law_draw q_law_links q_law_pick) := by
  unfold c_law_parts_2 v_law_parts_2
  exact (sim_drop (sim_mut sim_app (sim_cons (sim_tup (sim_cons (sim_op sim_add (sim_str _) (sim_blt sim_strC (sim_cons (sim_var 6) sim_nil))) (sim_cons (sim_call (cv := [.io, .a]) rfl (sim_cons (sim_var 0) (sim_cons (sim_var 3) sim_nil))) (sim_cons (sim_call (cv := [.io, .a]) rfl (sim_cons (sim_var 0) (sim_cons (sim_lst (sim_cons (sim_str _) (sim_cons (sim_str _) (sim_cons (sim_str _) sim_nil)))) sim_nil))) (sim_cons (sim_call (cv := [.io, .a]) rfl (sim_cons (sim_var 0) (sim_cons (sim_int 2) sim_nil))) sim_nil))))) sim_nil)))
def c_law_parts (p_law_draw : Spec) (p_law_links : Spec) (p_law_pick : Spec) : WS :=
  (wSq (wAsg 1 (wOp opAdd (wCst (.int 1)) (wCall 2 p_law_draw (wCons (wVar 0) (wCons (wCst (.int 6)) wNil)))))
  (wSq (wAsg 2 (wCall 2 p_law_draw (wCons (wVar 0) (wCons (wCst (.int 8)) wNil))))
  (wSq (wAsg 3 (wOp opAdd (wCst (.int 1)) (wCall 2 p_law_draw (wCons (wVar 0) (wCons (wCst (.int 8)) wNil)))))
  (wSq (wAsg 4 (wOp opShl (wCst (.int 1)) (wOp opAdd (wVar 1) (wVar 2))))
  (wSq (wAsg 5 (wLst wNil))
  (wSq (wFor (wRng (wCons (wVar 3) wNil)) (.nm 6) (c_law_parts_1 p_law_draw p_law_links p_law_pick))
  (wSq (wAsg 8 (wSlc (wLc (wSeqI (wCall 3 p_law_links (wCons (wVar 0) (wCons (wVar 3) (wCons (wCall 2 p_law_draw (wCons (wVar 0) (wCons (wCst (.int 6)) wNil))) wNil))))) (.nm 9) wYes (wOp opAdd (wVar 9) (wTup (wCons (wOp opAdd (wCst (.int 1)) (wCall 2 p_law_draw (wCons (wVar 0) (wCons (wCst (.int 99)) wNil)))) wNil))) [9]) wNoP (wPart (wCst (.int 12)))))
  (wSq (wAsg 10 (wLst wNil))
  (wSq (wFor (wRng (wCons (wCall 2 p_law_draw (wCons (wVar 0) (wCons (wCst (.int 9)) wNil))) wNil)) (.nm 6) (c_law_parts_2 p_law_draw p_law_links p_law_pick))
  (wRet (wLst (wCons (wVar 1) (wCons (wVar 2) (wCons (wBlt tupleC (wCons (wVar 5) wNil)) (wCons (wBlt tupleC (wCons (wVar 8) wNil)) (wCons (wBlt tupleC (wCons (wVar 10) wNil)) wNil))))))))))))))))
def v_law_parts (q_law_draw : VSpec) (q_law_links : VSpec) (q_law_pick : VSpec) : VS :=
  (vSq (vAsg 1 (vOp oAdd (vCst (np 1)) (vCall [.io, .a] q_law_draw (vCons (vVar 0) (vCons (vCst (np 6)) vNil)))))
  (vSq (vAsg 2 (vCall [.io, .a] q_law_draw (vCons (vVar 0) (vCons (vCst (np 8)) vNil))))
  (vSq (vAsg 3 (vOp oAdd (vCst (np 1)) (vCall [.io, .a] q_law_draw (vCons (vVar 0) (vCons (vCst (np 8)) vNil)))))
  (vSq (vAsg 4 (vOp oShl (vCst (np 1)) (vOp oAdd (vVar 1) (vVar 2))))
  (vSq (vAsg 5 (vLst vNil))
  (vSq (vFor (vRng (vCons (vVar 3) vNil)) (.nm 6) (v_law_parts_1 q_law_draw q_law_links q_law_pick))
  (vSq (vAsg 8 (vSlc (vLc (vSeqI (vCall [.io, .a, .a] q_law_links (vCons (vVar 0) (vCons (vVar 3) (vCons (vCall [.io, .a] q_law_draw (vCons (vVar 0) (vCons (vCst (np 6)) vNil))) vNil))))) (.nm 9) vYes (vOp oAdd (vVar 9) (vTup (vCons (vOp oAdd (vCst (np 1)) (vCall [.io, .a] q_law_draw (vCons (vVar 0) (vCons (vCst (np 99)) vNil)))) vNil))) [9]) vNoP (vPart (vCst (np 12)))))
  (vSq (vAsg 10 (vLst vNil))
  (vSq (vFor (vRng (vCons (vCall [.io, .a] q_law_draw (vCons (vVar 0) (vCons (vCst (np 9)) vNil))) vNil)) (.nm 6) (v_law_parts_2 q_law_draw q_law_links q_law_pick))
  (vRet (vLst (vCons (vVar 1) (vCons (vVar 2) (vCons (vBlt cTuple (vCons (vVar 5) vNil)) (vCons (vBlt cTuple (vCons (vVar 8) vNil)) (vCons (vBlt cTuple (vCons (vVar 10) vNil)) vNil))))))))))))))))
theorem sim_law_parts (q_law_draw : VSpec) (q_law_links : VSpec) (q_law_pick : VSpec) : SimS (c_law_parts (up q_law_draw) (up q_law_links) (up q_law_pick)) (v_law_parts q_law_draw q_law_links q_law_pick) := by
  unfold c_law_parts v_law_parts
  exact (sim_sq (sim_asg (sim_op sim_add (sim_int 1) (sim_call (cv := [.io, .a]) rfl (sim_cons (sim_var 0) (sim_cons (sim_int 6) sim_nil)))))
  (sim_sq (sim_asg (sim_call (cv := [.io, .a]) rfl (sim_cons (sim_var 0) (sim_cons (sim_int 8) sim_nil))))
  (sim_sq (sim_asg (sim_op sim_add (sim_int 1) (sim_call (cv := [.io, .a]) rfl (sim_cons (sim_var 0) (sim_cons (sim_int 8) sim_nil)))))
  (sim_sq (sim_asg (sim_op sim_shl (sim_int 1) (sim_op sim_add (sim_var 1) (sim_var 2))))
  (sim_sq (sim_asg (sim_lst sim_nil))
  (sim_sq (sim_for (sim_rng (sim_cons (sim_var 3) sim_nil)) (sim_law_parts_1 q_law_draw q_law_links q_law_pick))
  (sim_sq (sim_asg (sim_slcE (sim_lc (sim_seqI (sim_call (cv := [.io, .a, .a]) rfl (sim_cons (sim_var 0) (sim_cons (sim_var 3) (sim_cons (sim_call (cv := [.io, .a]) rfl (sim_cons (sim_var 0) (sim_cons (sim_int 6) sim_nil))) sim_nil))))) sim_yes (sim_op sim_add (sim_var 9) (sim_tup (sim_cons (sim_op sim_add (sim_int 1) (sim_call (cv := [.io, .a]) rfl (sim_cons (sim_var 0) (sim_cons (sim_int 99) sim_nil)))) sim_nil))) (by decide)) sim_noP (sim_part (sim_int 12))))
  (sim_sq (sim_asg (sim_lst sim_nil))
  (sim_sq (sim_for (sim_rng (sim_cons (sim_call (cv := [.io, .a]) rfl (sim_cons (sim_var 0) (sim_cons (sim_int 9) sim_nil))) sim_nil)) (sim_law_parts_2 q_law_draw q_law_links q_law_pick))
  (sim_ret (sim_lst (sim_cons (sim_var 1) (sim_cons (sim_var 2) (sim_cons (sim_blt sim_tuple (sim_cons (sim_var 5) sim_nil)) (sim_cons (sim_blt sim_tuple (sim_cons (sim_var 8) sim_nil)) (sim_cons (sim_blt sim_tuple (sim_cons (sim_var 10) sim_nil)) sim_nil))))))))))))))))
def sp_law_parts : VSpec := wpOf 11 (v_law_parts sp_law_draw sp_law_links sp_law_pick)
theorem run_law_parts {u0 : V'} {Q : V' → List P → Prop} : sp_law_parts [u0] Q = v_law_parts sp_law_draw sp_law_links sp_law_pick (kvOf [u0] Q) [some u0, none, none, none, none, none, none, none, none, none, none] := rfl
theorem good_law_parts : Good 11 1 (c_law_parts (up sp_law_draw) (up sp_law_links) (up sp_law_pick)) (up sp_law_parts) := good_up (sim_law_parts sp_law_draw sp_law_links sp_law_pick)

/- _law_made(parts): slots parts=0 -/
def c_law_made (p_Net_init : Spec) : WS :=
  (wRet (wMak (Str.ofString "Net") 5 p_Net_init (wCons (wOp idxD (wVar 0) (wCst (.int 0))) (wCons (wOp idxD (wVar 0) (wCst (.int 1))) (wCons (wOp idxD (wVar 0) (wCst (.int 2))) (wCons (wOp idxD (wVar 0) (wCst (.int 3))) (wCons (wOp idxD (wVar 0) (wCst (.int 4))) wNil)))))))
def v_law_made (q_Net_init : VSpec) : VS :=
  (vRet (vMak (Str.ofString "Net") [.a, .a, .a, .a, .a] q_Net_init (vCons (vOp oIdx (vVar 0) (vCst (np 0))) (vCons (vOp oIdx (vVar 0) (vCst (np 1))) (vCons (vOp oIdx (vVar 0) (vCst (np 2))) (vCons (vOp oIdx (vVar 0) (vCst (np 3))) (vCons (vOp oIdx (vVar 0) (vCst (np 4))) vNil)))))))
theorem sim_law_made (q_Net_init : VSpec) : SimS (c_law_made (up q_Net_init)) (v_law_made q_Net_init) := by
  unfold c_law_made v_law_made
  exact (sim_ret (sim_mak (cv := [.a, .a, .a, .a, .a]) rfl (sim_cons (sim_op sim_idx (sim_var 0) (sim_int 0)) (sim_cons (sim_op sim_idx (sim_var 0) (sim_int 1)) (sim_cons (sim_op sim_idx (sim_var 0) (sim_int 2)) (sim_cons (sim_op sim_idx (sim_var 0) (sim_int 3)) (sim_cons (sim_op sim_idx (sim_var 0) (sim_int 4)) sim_nil)))))))
def sp_law_made : VSpec := wpOf 1 (v_law_made sp_Net_init)
theorem run_law_made {u0 : V'} {Q : V' → List P → Prop} : sp_law_made [u0] Q = v_law_made sp_Net_init (kvOf [u0] Q) [some u0] := rfl
theorem good_law_made : Good 1 1 (c_law_made (up sp_Net_init)) (up sp_law_made) := good_up (sim_law_made sp_Net_init)

/- _law_right(net, parts): slots net=0 parts=1 data=2 marks=3 switches=4 links=5 hosts=6 one=7 -/
def c_law_right (p_Net_link_lot : Spec) : WS :=
  (wSq (wAsgP (.tp [2, 3, 4, 5, 6]) (wVar 1))
  (wSq (wIfS (wTsB (wOp (cmpD .NotEq) (wTup (wCons (wFld [Str.ofString "Net"] (Str.ofString "data") (wVar 0)) (wCons (wFld [Str.ofString "Net"] (Str.ofString "marks") (wVar 0)) (wCons (wFld [Str.ofString "Net"] (Str.ofString "width") (wVar 0)) wNil)))) (wTup (wCons (wVar 2) (wCons (wVar 3) (wCons (wOp opAdd (wVar 2) (wVar 3)) wNil)))))) (wRet (wCst (.bl false))) wPas)
  (wSq (wIfS (wOrB (wTsB (wOp (cmpD .NotEq) (wFld [Str.ofString "Net"] (Str.ofString "switches") (wVar 0)) (wBlt tupleC (wCons (wLc (wSeqI (wVar 4)) (.nm 7) wYes (wOp idxD (wVar 7) (wCst (.int 0))) [7]) wNil)))) (wTsB (wOp (cmpD .NotEq) (wFld [Str.ofString "Net"] (Str.ofString "rooms") (wVar 0)) (wBlt tupleC (wCons (wLc (wSeqI (wVar 4)) (.nm 7) wYes (wOp idxD (wVar 7) (wCst (.int 1))) [7]) wNil))))) (wRet (wCst (.bl false))) wPas)
  (wSq (wIfS (wOrB (wTsB (wOp (cmpD .NotEq) (wFld [Str.ofString "Net"] (Str.ofString "kinds") (wVar 0)) (wBlt tupleC (wCons (wLc (wSeqI (wVar 4)) (.nm 7) wYes (wOp idxD (wVar 7) (wCst (.int 2))) [7]) wNil)))) (wTsB (wOp (cmpD .NotEq) (wFld [Str.ofString "Net"] (Str.ofString "links") (wVar 0)) (wBlt tupleC (wCons (wLc (wSeqI (wVar 5)) (.nm 7) wYes (wSlc (wVar 7) wNoP (wPart (wCst (.int 2)))) [7]) wNil))))) (wRet (wCst (.bl false))) wPas)
  (wSq (wIfS (wOrB (wTsB (wOp (cmpD .NotEq) (wFld [Str.ofString "Net"] (Str.ofString "link_rooms") (wVar 0)) (wBlt tupleC (wCons (wLc (wSeqI (wVar 5)) (.nm 7) wYes (wOp idxD (wVar 7) (wCst (.int 2))) [7]) wNil)))) (wTsB (wOp (cmpD .NotEq) (wFld [Str.ofString "Net"] (Str.ofString "hosts") (wVar 0)) (wBlt tupleC (wCons (wLc (wSeqI (wVar 6)) (.nm 7) wYes (wOp idxD (wVar 7) (wCst (.int 0))) [7]) wNil))))) (wRet (wCst (.bl false))) wPas)
  (wSq (wIfS (wOrB (wTsB (wOp (cmpD .NotEq) (wFld [Str.ofString "Net"] (Str.ofString "homes") (wVar 0)) (wBlt tupleC (wCons (wLc (wSeqI (wVar 6)) (.nm 7) wYes (wOp idxD (wVar 7) (wCst (.int 1))) [7]) wNil)))) (wTsB (wOp (cmpD .NotEq) (wFld [Str.ofString "Net"] (Str.ofString "tenants") (wVar 0)) (wBlt tupleC (wCons (wLc (wSeqI (wVar 6)) (.nm 7) wYes (wOp idxD (wVar 7) (wCst (.int 2))) [7]) wNil))))) (wRet (wCst (.bl false))) wPas)
  (wSq (wIfS (wOrB (wTsB (wOp (cmpD .NotEq) (wFld [Str.ofString "Net"] (Str.ofString "relays") (wVar 0)) (wBlt tupleC (wCons (wLc (wSeqI (wVar 6)) (.nm 7) wYes (wOp idxD (wVar 7) (wCst (.int 3))) [7]) wNil)))) (wTsB (wOp (cmpD .NotEq) (wMth (Str.ofString "Net") (Str.ofString "link_lot") 0 p_Net_link_lot (wVar 0) wNil) (wOp opSub (wOp opShl (wCst (.int 1)) (wBlt lenC (wCons (wVar 5) wNil))) (wCst (.int 1)))))) (wRet (wCst (.bl false))) wPas)
  (wRet (wAndV (wOp (cmpD .Eq) (wFld [Str.ofString "Net"] (Str.ofString "data_care") (wVar 0)) (wOp opSub (wOp opShl (wCst (.int 1)) (wVar 2)) (wCst (.int 1)))) (wOp (cmpD .Eq) (wFld [Str.ofString "Net"] (Str.ofString "mark_care") (wVar 0)) (wOp opSub (wOp opShl (wCst (.int 1)) (wOp opAdd (wVar 2) (wVar 3))) (wOp opShl (wCst (.int 1)) (wVar 2)))))))))))))
def v_law_right (q_Net_link_lot : VSpec) : VS :=
  (vSq (vAsgP (.tp [2, 3, 4, 5, 6]) (vVar 1))
  (vSq (vIfS (vTsB (vOp (oEq true) (vTup (vCons (vFld [Str.ofString "Net"] (Str.ofString "data") (vVar 0)) (vCons (vFld [Str.ofString "Net"] (Str.ofString "marks") (vVar 0)) (vCons (vFld [Str.ofString "Net"] (Str.ofString "width") (vVar 0)) vNil)))) (vTup (vCons (vVar 2) (vCons (vVar 3) (vCons (vOp oAdd (vVar 2) (vVar 3)) vNil)))))) (vRet (vCst (.bl false))) vPas)
  (vSq (vIfS (vOrB (vTsB (vOp (oEq true) (vFld [Str.ofString "Net"] (Str.ofString "switches") (vVar 0)) (vBlt cTuple (vCons (vLc (vSeqI (vVar 4)) (.nm 7) vYes (vOp oIdx (vVar 7) (vCst (np 0))) [7]) vNil)))) (vTsB (vOp (oEq true) (vFld [Str.ofString "Net"] (Str.ofString "rooms") (vVar 0)) (vBlt cTuple (vCons (vLc (vSeqI (vVar 4)) (.nm 7) vYes (vOp oIdx (vVar 7) (vCst (np 1))) [7]) vNil))))) (vRet (vCst (.bl false))) vPas)
  (vSq (vIfS (vOrB (vTsB (vOp (oEq true) (vFld [Str.ofString "Net"] (Str.ofString "kinds") (vVar 0)) (vBlt cTuple (vCons (vLc (vSeqI (vVar 4)) (.nm 7) vYes (vOp oIdx (vVar 7) (vCst (np 2))) [7]) vNil)))) (vTsB (vOp (oEq true) (vFld [Str.ofString "Net"] (Str.ofString "links") (vVar 0)) (vBlt cTuple (vCons (vLc (vSeqI (vVar 5)) (.nm 7) vYes (vSlc (vVar 7) vNoP (vPart (vCst (np 2)))) [7]) vNil))))) (vRet (vCst (.bl false))) vPas)
  (vSq (vIfS (vOrB (vTsB (vOp (oEq true) (vFld [Str.ofString "Net"] (Str.ofString "link_rooms") (vVar 0)) (vBlt cTuple (vCons (vLc (vSeqI (vVar 5)) (.nm 7) vYes (vOp oIdx (vVar 7) (vCst (np 2))) [7]) vNil)))) (vTsB (vOp (oEq true) (vFld [Str.ofString "Net"] (Str.ofString "hosts") (vVar 0)) (vBlt cTuple (vCons (vLc (vSeqI (vVar 6)) (.nm 7) vYes (vOp oIdx (vVar 7) (vCst (np 0))) [7]) vNil))))) (vRet (vCst (.bl false))) vPas)
  (vSq (vIfS (vOrB (vTsB (vOp (oEq true) (vFld [Str.ofString "Net"] (Str.ofString "homes") (vVar 0)) (vBlt cTuple (vCons (vLc (vSeqI (vVar 6)) (.nm 7) vYes (vOp oIdx (vVar 7) (vCst (np 1))) [7]) vNil)))) (vTsB (vOp (oEq true) (vFld [Str.ofString "Net"] (Str.ofString "tenants") (vVar 0)) (vBlt cTuple (vCons (vLc (vSeqI (vVar 6)) (.nm 7) vYes (vOp oIdx (vVar 7) (vCst (np 2))) [7]) vNil))))) (vRet (vCst (.bl false))) vPas)
  (vSq (vIfS (vOrB (vTsB (vOp (oEq true) (vFld [Str.ofString "Net"] (Str.ofString "relays") (vVar 0)) (vBlt cTuple (vCons (vLc (vSeqI (vVar 6)) (.nm 7) vYes (vOp oIdx (vVar 7) (vCst (np 3))) [7]) vNil)))) (vTsB (vOp (oEq true) (vMth (Str.ofString "Net") (Str.ofString "link_lot") [.a] q_Net_link_lot (vVar 0) vNil) (vOp oSub (vOp oShl (vCst (np 1)) (vBlt cLen (vCons (vVar 5) vNil))) (vCst (np 1)))))) (vRet (vCst (.bl false))) vPas)
  (vRet (vAndV (vOp (oEq false) (vFld [Str.ofString "Net"] (Str.ofString "data_care") (vVar 0)) (vOp oSub (vOp oShl (vCst (np 1)) (vVar 2)) (vCst (np 1)))) (vOp (oEq false) (vFld [Str.ofString "Net"] (Str.ofString "mark_care") (vVar 0)) (vOp oSub (vOp oShl (vCst (np 1)) (vOp oAdd (vVar 2) (vVar 3))) (vOp oShl (vCst (np 1)) (vVar 2)))))))))))))
theorem sim_law_right (q_Net_link_lot : VSpec) : SimS (c_law_right (up q_Net_link_lot)) (v_law_right q_Net_link_lot) := by
  unfold c_law_right v_law_right
  exact (sim_sq (sim_asgP (sim_var 1))
  (sim_sq (sim_ifS (sim_tsB (sim_op (sim_eq true) (sim_tup (sim_cons (sim_fld (sim_var 0)) (sim_cons (sim_fld (sim_var 0)) (sim_cons (sim_fld (sim_var 0)) sim_nil)))) (sim_tup (sim_cons (sim_var 2) (sim_cons (sim_var 3) (sim_cons (sim_op sim_add (sim_var 2) (sim_var 3)) sim_nil)))))) (sim_ret (sim_bl _)) sim_pas)
  (sim_sq (sim_ifS (sim_orB (sim_tsB (sim_op (sim_eq true) (sim_fld (sim_var 0)) (sim_blt sim_tuple (sim_cons (sim_lc (sim_seqI (sim_var 4)) sim_yes (sim_op sim_idx (sim_var 7) (sim_int 0)) (by decide)) sim_nil)))) (sim_tsB (sim_op (sim_eq true) (sim_fld (sim_var 0)) (sim_blt sim_tuple (sim_cons (sim_lc (sim_seqI (sim_var 4)) sim_yes (sim_op sim_idx (sim_var 7) (sim_int 1)) (by decide)) sim_nil))))) (sim_ret (sim_bl _)) sim_pas)
  (sim_sq (sim_ifS (sim_orB (sim_tsB (sim_op (sim_eq true) (sim_fld (sim_var 0)) (sim_blt sim_tuple (sim_cons (sim_lc (sim_seqI (sim_var 4)) sim_yes (sim_op sim_idx (sim_var 7) (sim_int 2)) (by decide)) sim_nil)))) (sim_tsB (sim_op (sim_eq true) (sim_fld (sim_var 0)) (sim_blt sim_tuple (sim_cons (sim_lc (sim_seqI (sim_var 5)) sim_yes (sim_slcE (sim_var 7) sim_noP (sim_part (sim_int 2))) (by decide)) sim_nil))))) (sim_ret (sim_bl _)) sim_pas)
  (sim_sq (sim_ifS (sim_orB (sim_tsB (sim_op (sim_eq true) (sim_fld (sim_var 0)) (sim_blt sim_tuple (sim_cons (sim_lc (sim_seqI (sim_var 5)) sim_yes (sim_op sim_idx (sim_var 7) (sim_int 2)) (by decide)) sim_nil)))) (sim_tsB (sim_op (sim_eq true) (sim_fld (sim_var 0)) (sim_blt sim_tuple (sim_cons (sim_lc (sim_seqI (sim_var 6)) sim_yes (sim_op sim_idx (sim_var 7) (sim_int 0)) (by decide)) sim_nil))))) (sim_ret (sim_bl _)) sim_pas)
  (sim_sq (sim_ifS (sim_orB (sim_tsB (sim_op (sim_eq true) (sim_fld (sim_var 0)) (sim_blt sim_tuple (sim_cons (sim_lc (sim_seqI (sim_var 6)) sim_yes (sim_op sim_idx (sim_var 7) (sim_int 1)) (by decide)) sim_nil)))) (sim_tsB (sim_op (sim_eq true) (sim_fld (sim_var 0)) (sim_blt sim_tuple (sim_cons (sim_lc (sim_seqI (sim_var 6)) sim_yes (sim_op sim_idx (sim_var 7) (sim_int 2)) (by decide)) sim_nil))))) (sim_ret (sim_bl _)) sim_pas)
  (sim_sq (sim_ifS (sim_orB (sim_tsB (sim_op (sim_eq true) (sim_fld (sim_var 0)) (sim_blt sim_tuple (sim_cons (sim_lc (sim_seqI (sim_var 6)) sim_yes (sim_op sim_idx (sim_var 7) (sim_int 3)) (by decide)) sim_nil)))) (sim_tsB (sim_op (sim_eq true) (sim_mth (cv := [.a]) rfl (sim_var 0) sim_nil) (sim_op sim_sub (sim_op sim_shl (sim_int 1) (sim_blt sim_len (sim_cons (sim_var 5) sim_nil))) (sim_int 1))))) (sim_ret (sim_bl _)) sim_pas)
  (sim_ret (sim_andV (sim_op (sim_eq false) (sim_fld (sim_var 0)) (sim_op sim_sub (sim_op sim_shl (sim_int 1) (sim_var 2)) (sim_int 1))) (sim_op (sim_eq false) (sim_fld (sim_var 0)) (sim_op sim_sub (sim_op sim_shl (sim_int 1) (sim_op sim_add (sim_var 2) (sim_var 3))) (sim_op sim_shl (sim_int 1) (sim_var 2)))))))))))))
def sp_law_right : VSpec := wpOf 8 (v_law_right sp_Net_link_lot)
theorem run_law_right {u0 u1 : V'} {Q : V' → List P → Prop} : sp_law_right [u0, u1] Q = v_law_right sp_Net_link_lot (kvOf [u0, u1] Q) [some u0, some u1, none, none, none, none, none, none] := rfl
theorem good_law_right : Good 8 2 (c_law_right (up sp_Net_link_lot)) (up sp_law_right) := good_up (sim_law_right sp_Net_link_lot)

/- _law_changed(d, parts): slots d=0 parts=1 found=2 way=3 name=4 room=5 kind=6 one=7 other=8 home=9 tenant=10 relay=11 -/
def c_law_changed (p_law_draw : Spec) : WS :=
  (wSq (wAsg 2 (wBlt listC (wCons (wVar 1) wNil)))
  (wSq (wAsg 3 (wCall 2 p_law_draw (wCons (wVar 0) (wCons (wCst (.int 7)) wNil))))
  (wSq (wIfS (wTsB (wOp (cmpD .Eq) (wVar 3) (wCst (.int 0)))) (wSet (wVar 2) (wCst (.int 0)) (wIf (wTsB (wOp (cmpD .Lt) (wOp idxD (wVar 1) (wCst (.int 0))) (wCst (.int 6)))) (wOp opAdd (wCst (.int 1)) (wOp idxD (wVar 1) (wCst (.int 0)))) (wCst (.int 1)))) (wIfS (wTsB (wOp (cmpD .Eq) (wVar 3) (wCst (.int 1)))) (wSet (wVar 2) (wCst (.int 1)) (wIf (wTsB (wOp (cmpD .Lt) (wOp idxD (wVar 1) (wCst (.int 1))) (wCst (.int 7)))) (wOp opAdd (wCst (.int 1)) (wOp idxD (wVar 1) (wCst (.int 1)))) (wCst (.int 0)))) (wIfS (wTsB (wOp (cmpD .Eq) (wVar 3) (wCst (.int 2)))) (wSq (wAsgP (.tp [4, 5, 6]) (wOp idxD (wOp idxD (wVar 1) (wCst (.int 2))) (wCst (.int 0)))) (wSet (wVar 2) (wCst (.int 2)) (wOp opAdd (wTup (wCons (wTup (wCons (wVar 4) (wCons (wIf (wTsB (wOp (cmpD .Lt) (wVar 5) (wCst (.int 400)))) (wOp opAdd (wVar 5) (wCst (.int 1))) (wCst (.int 0))) (wCons (wVar 6) wNil)))) wNil)) (wSlc (wOp idxD (wVar 1) (wCst (.int 2))) (wPart (wCst (.int 1))) wNoP)))) (wIfS (wTsB (wOp (cmpD .Eq) (wVar 3) (wCst (.int 3)))) (wSq (wAsgP (.tp [4, 5, 6]) (wOp idxD (wOp idxD (wVar 1) (wCst (.int 2))) (wCst (.int 0)))) (wSet (wVar 2) (wCst (.int 2)) (wOp opAdd (wTup (wCons (wTup (wCons (wVar 4) (wCons (wVar 5) (wCons (wOp opAdd (wSlc (wVar 6) wNoP (wPart (wCst (.int 3)))) (wTup (wCons (wOp opSub (wCst (.int 1)) (wOp idxD (wVar 6) (wCst (.int 3)))) wNil))) wNil)))) wNil)) (wSlc (wOp idxD (wVar 1) (wCst (.int 2))) (wPart (wCst (.int 1))) wNoP)))) (wIfS (wAndB (wTsB (wOp (cmpD .Eq) (wVar 3) (wCst (.int 4)))) (wTsB (wOp (cmpD .Gt) (wBlt lenC (wCons (wOp idxD (wVar 1) (wCst (.int 3))) wNil)) (wCst (.int 0))))) (wSq (wAsgP (.tp [7, 8, 5]) (wOp idxD (wOp idxD (wVar 1) (wCst (.int 3))) (wCst (.int 0)))) (wSet (wVar 2) (wCst (.int 3)) (wOp opAdd (wTup (wCons (wTup (wCons (wVar 8) (wCons (wVar 7) (wCons (wVar 5) wNil)))) wNil)) (wSlc (wOp idxD (wVar 1) (wCst (.int 3))) (wPart (wCst (.int 1))) wNoP)))) (wIfS (wAndB (wTsB (wOp (cmpD .Eq) (wVar 3) (wCst (.int 5)))) (wTsB (wOp (cmpD .Gt) (wBlt lenC (wCons (wOp idxD (wVar 1) (wCst (.int 4))) wNil)) (wCst (.int 0))))) (wSq (wAsgP (.tp [4, 9, 10, 11]) (wOp idxD (wOp idxD (wVar 1) (wCst (.int 4))) (wCst (.int 0)))) (wSet (wVar 2) (wCst (.int 4)) (wOp opAdd (wTup (wCons (wTup (wCons (wVar 4) (wCons (wVar 9) (wCons (wVar 10) (wCons (wOp opSub (wCst (.int 1)) (wVar 11)) wNil))))) wNil)) (wSlc (wOp idxD (wVar 1) (wCst (.int 4))) (wPart (wCst (.int 1))) wNoP)))) (wSet (wVar 2) (wCst (.int 2)) (wOp opAdd (wOp idxD (wVar 1) (wCst (.int 2))) (wTup (wCons (wTup (wCons (wCst (.str (Str.ofString "zz9"))) (wCons (wCst (.int 0)) (wCons (wTup (wCons (wCst (.int 0)) (wCons (wCst (.int 0)) (wCons (wCst (.int 1)) (wCons (wCst (.int 0)) wNil))))) wNil)))) wNil))))))))))
  (wRet (wVar 2)))))
def v_law_changed (q_law_draw : VSpec) : VS :=
  (vSq (vAsg 2 (vBlt cList (vCons (vVar 1) vNil)))
  (vSq (vAsg 3 (vCall [.io, .a] q_law_draw (vCons (vVar 0) (vCons (vCst (np 7)) vNil))))
  (vSq (vIfS (vTsB (vOp (oEq false) (vVar 3) (vCst (np 0)))) (vSet 2 (vCst (np 0)) (vIf (vTsB (vOp oLt (vOp oIdx (vVar 1) (vCst (np 0))) (vCst (np 6)))) (vOp oAdd (vCst (np 1)) (vOp oIdx (vVar 1) (vCst (np 0)))) (vCst (np 1)))) (vIfS (vTsB (vOp (oEq false) (vVar 3) (vCst (np 1)))) (vSet 2 (vCst (np 1)) (vIf (vTsB (vOp oLt (vOp oIdx (vVar 1) (vCst (np 1))) (vCst (np 7)))) (vOp oAdd (vCst (np 1)) (vOp oIdx (vVar 1) (vCst (np 1)))) (vCst (np 0)))) (vIfS (vTsB (vOp (oEq false) (vVar 3) (vCst (np 2)))) (vSq (vAsgP (.tp [4, 5, 6]) (vOp oIdx (vOp oIdx (vVar 1) (vCst (np 2))) (vCst (np 0)))) (vSet 2 (vCst (np 2)) (vOp oAdd (vTup (vCons (vTup (vCons (vVar 4) (vCons (vIf (vTsB (vOp oLt (vVar 5) (vCst (np 400)))) (vOp oAdd (vVar 5) (vCst (np 1))) (vCst (np 0))) (vCons (vVar 6) vNil)))) vNil)) (vSlc (vOp oIdx (vVar 1) (vCst (np 2))) (vPart (vCst (np 1))) vNoP)))) (vIfS (vTsB (vOp (oEq false) (vVar 3) (vCst (np 3)))) (vSq (vAsgP (.tp [4, 5, 6]) (vOp oIdx (vOp oIdx (vVar 1) (vCst (np 2))) (vCst (np 0)))) (vSet 2 (vCst (np 2)) (vOp oAdd (vTup (vCons (vTup (vCons (vVar 4) (vCons (vVar 5) (vCons (vOp oAdd (vSlc (vVar 6) vNoP (vPart (vCst (np 3)))) (vTup (vCons (vOp oSub (vCst (np 1)) (vOp oIdx (vVar 6) (vCst (np 3)))) vNil))) vNil)))) vNil)) (vSlc (vOp oIdx (vVar 1) (vCst (np 2))) (vPart (vCst (np 1))) vNoP)))) (vIfS (vAndB (vTsB (vOp (oEq false) (vVar 3) (vCst (np 4)))) (vTsB (vOp oGt (vBlt cLen (vCons (vOp oIdx (vVar 1) (vCst (np 3))) vNil)) (vCst (np 0))))) (vSq (vAsgP (.tp [7, 8, 5]) (vOp oIdx (vOp oIdx (vVar 1) (vCst (np 3))) (vCst (np 0)))) (vSet 2 (vCst (np 3)) (vOp oAdd (vTup (vCons (vTup (vCons (vVar 8) (vCons (vVar 7) (vCons (vVar 5) vNil)))) vNil)) (vSlc (vOp oIdx (vVar 1) (vCst (np 3))) (vPart (vCst (np 1))) vNoP)))) (vIfS (vAndB (vTsB (vOp (oEq false) (vVar 3) (vCst (np 5)))) (vTsB (vOp oGt (vBlt cLen (vCons (vOp oIdx (vVar 1) (vCst (np 4))) vNil)) (vCst (np 0))))) (vSq (vAsgP (.tp [4, 9, 10, 11]) (vOp oIdx (vOp oIdx (vVar 1) (vCst (np 4))) (vCst (np 0)))) (vSet 2 (vCst (np 4)) (vOp oAdd (vTup (vCons (vTup (vCons (vVar 4) (vCons (vVar 9) (vCons (vVar 10) (vCons (vOp oSub (vCst (np 1)) (vVar 11)) vNil))))) vNil)) (vSlc (vOp oIdx (vVar 1) (vCst (np 4))) (vPart (vCst (np 1))) vNoP)))) (vSet 2 (vCst (np 2)) (vOp oAdd (vOp oIdx (vVar 1) (vCst (np 2))) (vTup (vCons (vTup (vCons (vCst (.str (Str.ofString "zz9"))) (vCons (vCst (np 0)) (vCons (vTup (vCons (vCst (np 0)) (vCons (vCst (np 0)) (vCons (vCst (np 1)) (vCons (vCst (np 0)) vNil))))) vNil)))) vNil))))))))))
  (vRet (vVar 2)))))
theorem sim_law_changed (q_law_draw : VSpec) : SimS (c_law_changed (up q_law_draw)) (v_law_changed q_law_draw) := by
  unfold c_law_changed v_law_changed
  exact (sim_sq (sim_asg (sim_blt sim_list (sim_cons (sim_var 1) sim_nil)))
  (sim_sq (sim_asg (sim_call (cv := [.io, .a]) rfl (sim_cons (sim_var 0) (sim_cons (sim_int 7) sim_nil))))
  (sim_sq (sim_ifS (sim_tsB (sim_op (sim_eq false) (sim_var 3) (sim_int 0))) (sim_set (sim_int 0) (sim_if (sim_tsB (sim_op sim_lt (sim_op sim_idx (sim_var 1) (sim_int 0)) (sim_int 6))) (sim_op sim_add (sim_int 1) (sim_op sim_idx (sim_var 1) (sim_int 0))) (sim_int 1))) (sim_ifS (sim_tsB (sim_op (sim_eq false) (sim_var 3) (sim_int 1))) (sim_set (sim_int 1) (sim_if (sim_tsB (sim_op sim_lt (sim_op sim_idx (sim_var 1) (sim_int 1)) (sim_int 7))) (sim_op sim_add (sim_int 1) (sim_op sim_idx (sim_var 1) (sim_int 1))) (sim_int 0))) (sim_ifS (sim_tsB (sim_op (sim_eq false) (sim_var 3) (sim_int 2))) (sim_sq (sim_asgP (sim_op sim_idx (sim_op sim_idx (sim_var 1) (sim_int 2)) (sim_int 0))) (sim_set (sim_int 2) (sim_op sim_add (sim_tup (sim_cons (sim_tup (sim_cons (sim_var 4) (sim_cons (sim_if (sim_tsB (sim_op sim_lt (sim_var 5) (sim_int 400))) (sim_op sim_add (sim_var 5) (sim_int 1)) (sim_int 0)) (sim_cons (sim_var 6) sim_nil)))) sim_nil)) (sim_slcE (sim_op sim_idx (sim_var 1) (sim_int 2)) (sim_part (sim_int 1)) sim_noP)))) (sim_ifS (sim_tsB (sim_op (sim_eq false) (sim_var 3) (sim_int 3))) (sim_sq (sim_asgP (sim_op sim_idx (sim_op sim_idx (sim_var 1) (sim_int 2)) (sim_int 0))) (sim_set (sim_int 2) (sim_op sim_add (sim_tup (sim_cons (sim_tup (sim_cons (sim_var 4) (sim_cons (sim_var 5) (sim_cons (sim_op sim_add (sim_slcE (sim_var 6) sim_noP (sim_part (sim_int 3))) (sim_tup (sim_cons (sim_op sim_sub (sim_int 1) (sim_op sim_idx (sim_var 6) (sim_int 3))) sim_nil))) sim_nil)))) sim_nil)) (sim_slcE (sim_op sim_idx (sim_var 1) (sim_int 2)) (sim_part (sim_int 1)) sim_noP)))) (sim_ifS (sim_andB (sim_tsB (sim_op (sim_eq false) (sim_var 3) (sim_int 4))) (sim_tsB (sim_op sim_gt (sim_blt sim_len (sim_cons (sim_op sim_idx (sim_var 1) (sim_int 3)) sim_nil)) (sim_int 0)))) (sim_sq (sim_asgP (sim_op sim_idx (sim_op sim_idx (sim_var 1) (sim_int 3)) (sim_int 0))) (sim_set (sim_int 3) (sim_op sim_add (sim_tup (sim_cons (sim_tup (sim_cons (sim_var 8) (sim_cons (sim_var 7) (sim_cons (sim_var 5) sim_nil)))) sim_nil)) (sim_slcE (sim_op sim_idx (sim_var 1) (sim_int 3)) (sim_part (sim_int 1)) sim_noP)))) (sim_ifS (sim_andB (sim_tsB (sim_op (sim_eq false) (sim_var 3) (sim_int 5))) (sim_tsB (sim_op sim_gt (sim_blt sim_len (sim_cons (sim_op sim_idx (sim_var 1) (sim_int 4)) sim_nil)) (sim_int 0)))) (sim_sq (sim_asgP (sim_op sim_idx (sim_op sim_idx (sim_var 1) (sim_int 4)) (sim_int 0))) (sim_set (sim_int 4) (sim_op sim_add (sim_tup (sim_cons (sim_tup (sim_cons (sim_var 4) (sim_cons (sim_var 9) (sim_cons (sim_var 10) (sim_cons (sim_op sim_sub (sim_int 1) (sim_var 11)) sim_nil))))) sim_nil)) (sim_slcE (sim_op sim_idx (sim_var 1) (sim_int 4)) (sim_part (sim_int 1)) sim_noP)))) (sim_set (sim_int 2) (sim_op sim_add (sim_op sim_idx (sim_var 1) (sim_int 2)) (sim_tup (sim_cons (sim_tup (sim_cons (sim_str _) (sim_cons (sim_int 0) (sim_cons (sim_tup (sim_cons (sim_int 0) (sim_cons (sim_int 0) (sim_cons (sim_int 1) (sim_cons (sim_int 0) sim_nil))))) sim_nil)))) sim_nil))))))))))
  (sim_ret (sim_var 2)))))
def sp_law_changed : VSpec := wpOf 12 (v_law_changed sp_law_draw)
theorem run_law_changed {u0 u1 : V'} {Q : V' → List P → Prop} : sp_law_changed [u0, u1] Q = v_law_changed sp_law_draw (kvOf [u0, u1] Q) [some u0, some u1, none, none, none, none, none, none, none, none, none, none] := rfl
theorem good_law_changed : Good 12 2 (c_law_changed (up sp_law_draw)) (up sp_law_changed) := good_up (sim_law_changed sp_law_draw)

/- law(script): slots script=0 d=1 parts=2 net=3 links=4 hosts=5 switch=6 near=7 k=8 link=9 one=10 other=11 room=12 host=13 -/
def c_law_1 (p_law_begin : Spec) (p_law_parts : Spec) (p_law_made : Spec) (p_Net_form : Spec) (p_law_right : Spec) (p_Net_links_at : Spec) (p_Net_hosts_at : Spec) (p_Net_far : Spec) (p_Net_host_at : Spec) (p_Net_host_door : Spec) (p_law_changed : Spec) : WS :=
  (wSq (wAsgP (.tp [10, 11, 12]) (wOp idxD (wVar 4) (wVar 9)))
  (wIfS (wTsB (wOp (cmpD .NotEq) (wMth (Str.ofString "Net") (Str.ofString "far") 2 p_Net_far (wVar 3) (wCons (wVar 9) (wCons (wVar 6) wNil))) (wIf (wTsB (wOp (cmpD .Eq) (wVar 10) (wVar 6))) (wVar 11) (wVar 10)))) (wRet (wCst (.bl false))) wPas))
def v_law_1 (q_law_begin : VSpec) (q_law_parts : VSpec) (q_law_made : VSpec) (q_Net_form : VSpec) (q_law_right : VSpec) (q_Net_links_at : VSpec) (q_Net_hosts_at : VSpec) (q_Net_far : VSpec) (q_Net_host_at : VSpec) (q_Net_host_door : VSpec) (q_law_changed : VSpec) : VS :=
  (vSq (vAsgP (.tp [10, 11, 12]) (vOp oIdx (vVar 4) (vVar 9)))
  (vIfS (vTsB (vOp (oEq true) (vMth (Str.ofString "Net") (Str.ofString "far") [.a, .a, .a] q_Net_far (vVar 3) (vCons (vVar 9) (vCons (vVar 6) vNil))) (vIf (vTsB (vOp (oEq false) (vVar 10) (vVar 6))) (vVar 11) (vVar 10)))) (vRet (vCst (.bl false))) vPas))
theorem sim_law_1 (q_law_begin : VSpec) (q_law_parts : VSpec) (q_law_made : VSpec) (q_Net_form : VSpec) (q_law_right : VSpec) (q_Net_links_at : VSpec) (q_Net_hosts_at : VSpec) (q_Net_far : VSpec) (q_Net_host_at : VSpec) (q_Net_host_door : VSpec) (q_law_changed : VSpec) : SimS (c_law_1 (up q_law_begin) (up q_law_parts) (up q_law_made) (up q_Net_form) (up q_law_right) (up q_Net_links_at) (up q_Net_hosts_at) (up q_Net_far) (up q_Net_host_at) (up q_Net_host_door) (up q_law_changed)) (v_law_1 q_law_begin q_law_parts q_law_made q_Net_form q_law_right q_Net_links_at q_Net_hosts_at q_Net_far q_Net_host_at q_Net_host_door q_law_changed) := by
  unfold c_law_1 v_law_1
  exact (sim_sq (sim_asgP (sim_op sim_idx (sim_var 4) (sim_var 9)))
  (sim_ifS (sim_tsB (sim_op (sim_eq true) (sim_mth (cv := [.a, .a, .a]) rfl (sim_var 3) (sim_cons (sim_var 9) (sim_cons (sim_var 6) sim_nil))) (sim_if (sim_tsB (sim_op (sim_eq false) (sim_var 10) (sim_var 6))) (sim_var 11) (sim_var 10)))) (sim_ret (sim_bl _)) sim_pas))
def c_law_2 (p_law_begin : Spec) (p_law_parts : Spec) (p_law_made : Spec) (p_Net_form : Spec) (p_law_right : Spec) (p_Net_links_at : Spec) (p_Net_hosts_at : Spec) (p_Net_far : Spec) (p_Net_host_at : Spec) (p_Net_host_door : Spec) (p_law_changed : Spec) : WS :=
  (wSq (wAsg 7 (wLc (wRng (wCons (wBlt lenC (wCons (wVar 4) wNil)) wNil)) (.nm 8) (wTsB (wOp (cmpD .In) (wVar 6) (wSlc (wOp idxD (wVar 4) (wVar 8)) wNoP (wPart (wCst (.int 2)))))) (wVar 8) [8]))
  (wSq (wIfS (wTsB (wOp (cmpD .NotEq) (wMth (Str.ofString "Net") (Str.ofString "links_at") 1 p_Net_links_at (wVar 3) (wCons (wVar 6) wNil)) (wBlt tupleC (wCons (wVar 7) wNil)))) (wRet (wCst (.bl false))) wPas)
  (wSq (wIfS (wTsB (wOp (cmpD .NotEq) (wMth (Str.ofString "Net") (Str.ofString "hosts_at") 1 p_Net_hosts_at (wVar 3) (wCons (wVar 6) wNil)) (wBlt tupleC (wCons (wLc (wRng (wCons (wBlt lenC (wCons (wVar 5) wNil)) wNil)) (.nm 8) (wTsB (wOp (cmpD .Eq) (wOp idxD (wOp idxD (wVar 5) (wVar 8)) (wCst (.int 1))) (wVar 6))) (wVar 8) [8]) wNil)))) (wRet (wCst (.bl false))) wPas)
  (wForN 7 (.nm 9) (c_law_1 p_law_begin p_law_parts p_law_made p_Net_form p_law_right p_Net_links_at p_Net_hosts_at p_Net_far p_Net_host_at p_Net_host_door p_law_changed)))))
def v_law_2 (q_law_begin : VSpec) (q_law_parts : VSpec) (q_law_made : VSpec) (q_Net_form : VSpec) (q_law_right : VSpec) (q_Net_links_at : VSpec) (q_Net_hosts_at : VSpec) (q_Net_far : VSpec) (q_Net_host_at : VSpec) (q_Net_host_door : VSpec) (q_law_changed : VSpec) : VS :=
  (vSq (vAsg 7 (vLc (vRng (vCons (vBlt cLen (vCons (vVar 4) vNil)) vNil)) (.nm 8) (vTsB (vOp (oIn false) (vVar 6) (vSlc (vOp oIdx (vVar 4) (vVar 8)) vNoP (vPart (vCst (np 2)))))) (vVar 8) [8]))
  (vSq (vIfS (vTsB (vOp (oEq true) (vMth (Str.ofString "Net") (Str.ofString "links_at") [.a, .a] q_Net_links_at (vVar 3) (vCons (vVar 6) vNil)) (vBlt cTuple (vCons (vVar 7) vNil)))) (vRet (vCst (.bl false))) vPas)
  (vSq (vIfS (vTsB (vOp (oEq true) (vMth (Str.ofString "Net") (Str.ofString "hosts_at") [.a, .a] q_Net_hosts_at (vVar 3) (vCons (vVar 6) vNil)) (vBlt cTuple (vCons (vLc (vRng (vCons (vBlt cLen (vCons (vVar 5) vNil)) vNil)) (.nm 8) (vTsB (vOp (oEq false) (vOp oIdx (vOp oIdx (vVar 5) (vVar 8)) (vCst (np 1))) (vVar 6))) (vVar 8) [8]) vNil)))) (vRet (vCst (.bl false))) vPas)
  (vForN 7 (.nm 9) (v_law_1 q_law_begin q_law_parts q_law_made q_Net_form q_law_right q_Net_links_at q_Net_hosts_at q_Net_far q_Net_host_at q_Net_host_door q_law_changed)))))
theorem sim_law_2 (q_law_begin : VSpec) (q_law_parts : VSpec) (q_law_made : VSpec) (q_Net_form : VSpec) (q_law_right : VSpec) (q_Net_links_at : VSpec) (q_Net_hosts_at : VSpec) (q_Net_far : VSpec) (q_Net_host_at : VSpec) (q_Net_host_door : VSpec) (q_law_changed : VSpec) : SimS (c_law_2 (up q_law_begin) (up q_law_parts) (up q_law_made) (up q_Net_form) (up q_law_right) (up q_Net_links_at) (up q_Net_hosts_at) (up q_Net_far) (up q_Net_host_at) (up q_Net_host_door) (up q_law_changed)) (v_law_2 q_law_begin q_law_parts q_law_made q_Net_form q_law_right q_Net_links_at q_Net_hosts_at q_Net_far q_Net_host_at q_Net_host_door q_law_changed) := by
  unfold c_law_2 v_law_2
  exact (sim_sq (sim_asg (sim_lc (sim_rng (sim_cons (sim_blt sim_len (sim_cons (sim_var 4) sim_nil)) sim_nil)) (sim_tsB (sim_op (sim_in false) (sim_var 6) (sim_slcE (sim_op sim_idx (sim_var 4) (sim_var 8)) sim_noP (sim_part (sim_int 2))))) (sim_var 8) (by decide)))
  (sim_sq (sim_ifS (sim_tsB (sim_op (sim_eq true) (sim_mth (cv := [.a, .a]) rfl (sim_var 3) (sim_cons (sim_var 6) sim_nil)) (sim_blt sim_tuple (sim_cons (sim_var 7) sim_nil)))) (sim_ret (sim_bl _)) sim_pas)
  (sim_sq (sim_ifS (sim_tsB (sim_op (sim_eq true) (sim_mth (cv := [.a, .a]) rfl (sim_var 3) (sim_cons (sim_var 6) sim_nil)) (sim_blt sim_tuple (sim_cons (sim_lc (sim_rng (sim_cons (sim_blt sim_len (sim_cons (sim_var 5) sim_nil)) sim_nil)) (sim_tsB (sim_op (sim_eq false) (sim_op sim_idx (sim_op sim_idx (sim_var 5) (sim_var 8)) (sim_int 1)) (sim_var 6))) (sim_var 8) (by decide)) sim_nil)))) (sim_ret (sim_bl _)) sim_pas)
  (sim_forN (sim_law_1 q_law_begin q_law_parts q_law_made q_Net_form q_law_right q_Net_links_at q_Net_hosts_at q_Net_far q_Net_host_at q_Net_host_door q_law_changed)))))
def c_law_3 (p_law_begin : Spec) (p_law_parts : Spec) (p_law_made : Spec) (p_Net_form : Spec) (p_law_right : Spec) (p_Net_links_at : Spec) (p_Net_hosts_at : Spec) (p_Net_far : Spec) (p_Net_host_at : Spec) (p_Net_host_door : Spec) (p_law_changed : Spec) : WS :=
  (wIfS (wTsB (wOp (cmpD .IsNot) (wMth (Str.ofString "Net") (Str.ofString "host_at") 1 p_Net_host_at (wVar 3) (wCons (wVar 9) wNil)) (wCst .non))) (wRet (wCst (.bl false))) wPas)
def v_law_3 (q_law_begin : VSpec) (q_law_parts : VSpec) (q_law_made : VSpec) (q_Net_form : VSpec) (q_law_right : VSpec) (q_Net_links_at : VSpec) (q_Net_hosts_at : VSpec) (q_Net_far : VSpec) (q_Net_host_at : VSpec) (q_Net_host_door : VSpec) (q_law_changed : VSpec) : VS :=
  (vIfS (vTsB (vOp (oIs true) (vMth (Str.ofString "Net") (Str.ofString "host_at") [.a, .a] q_Net_host_at (vVar 3) (vCons (vVar 9) vNil)) (vCst .non))) (vRet (vCst (.bl false))) vPas)
theorem sim_law_3 (q_law_begin : VSpec) (q_law_parts : VSpec) (q_law_made : VSpec) (q_Net_form : VSpec) (q_law_right : VSpec) (q_Net_links_at : VSpec) (q_Net_hosts_at : VSpec) (q_Net_far : VSpec) (q_Net_host_at : VSpec) (q_Net_host_door : VSpec) (q_law_changed : VSpec) : SimS (c_law_3 (up q_law_begin) (up q_law_parts) (up q_law_made) (up q_Net_form) (up q_law_right) (up q_Net_links_at) (up q_Net_hosts_at) (up q_Net_far) (up q_Net_host_at) (up q_Net_host_door) (up q_law_changed)) (v_law_3 q_law_begin q_law_parts q_law_made q_Net_form q_law_right q_Net_links_at q_Net_hosts_at q_Net_far q_Net_host_at q_Net_host_door q_law_changed) := by
  unfold c_law_3 v_law_3
  exact (sim_ifS (sim_tsB (sim_op (sim_is true) (sim_mth (cv := [.a, .a]) rfl (sim_var 3) (sim_cons (sim_var 9) sim_nil)) sim_non)) (sim_ret (sim_bl _)) sim_pas)
def c_law_4 (p_law_begin : Spec) (p_law_parts : Spec) (p_law_made : Spec) (p_Net_form : Spec) (p_law_right : Spec) (p_Net_links_at : Spec) (p_Net_hosts_at : Spec) (p_Net_far : Spec) (p_Net_host_at : Spec) (p_Net_host_door : Spec) (p_law_changed : Spec) : WS :=
  (wIfS (wOrB (wTsB (wOp (cmpD .NotEq) (wMth (Str.ofString "Net") (Str.ofString "host_door") 1 p_Net_host_door (wVar 3) (wCons (wVar 13) wNil)) (wOp opAdd (wBlt lenC (wCons (wVar 4) wNil)) (wVar 13)))) (wTsB (wOp (cmpD .NotEq) (wMth (Str.ofString "Net") (Str.ofString "host_at") 1 p_Net_host_at (wVar 3) (wCons (wOp opAdd (wBlt lenC (wCons (wVar 4) wNil)) (wVar 13)) wNil)) (wVar 13)))) (wRet (wCst (.bl false))) wPas)
def v_law_4 (q_law_begin : VSpec) (q_law_parts : VSpec) (q_law_made : VSpec) (q_Net_form : VSpec) (q_law_right : VSpec) (q_Net_links_at : VSpec) (q_Net_hosts_at : VSpec) (q_Net_far : VSpec) (q_Net_host_at : VSpec) (q_Net_host_door : VSpec) (q_law_changed : VSpec) : VS :=
  (vIfS (vOrB (vTsB (vOp (oEq true) (vMth (Str.ofString "Net") (Str.ofString "host_door") [.a, .a] q_Net_host_door (vVar 3) (vCons (vVar 13) vNil)) (vOp oAdd (vBlt cLen (vCons (vVar 4) vNil)) (vVar 13)))) (vTsB (vOp (oEq true) (vMth (Str.ofString "Net") (Str.ofString "host_at") [.a, .a] q_Net_host_at (vVar 3) (vCons (vOp oAdd (vBlt cLen (vCons (vVar 4) vNil)) (vVar 13)) vNil)) (vVar 13)))) (vRet (vCst (.bl false))) vPas)
theorem sim_law_4 (q_law_begin : VSpec) (q_law_parts : VSpec) (q_law_made : VSpec) (q_Net_form : VSpec) (q_law_right : VSpec) (q_Net_links_at : VSpec) (q_Net_hosts_at : VSpec) (q_Net_far : VSpec) (q_Net_host_at : VSpec) (q_Net_host_door : VSpec) (q_law_changed : VSpec) : SimS (c_law_4 (up q_law_begin) (up q_law_parts) (up q_law_made) (up q_Net_form) (up q_law_right) (up q_Net_links_at) (up q_Net_hosts_at) (up q_Net_far) (up q_Net_host_at) (up q_Net_host_door) (up q_law_changed)) (v_law_4 q_law_begin q_law_parts q_law_made q_Net_form q_law_right q_Net_links_at q_Net_hosts_at q_Net_far q_Net_host_at q_Net_host_door q_law_changed) := by
  unfold c_law_4 v_law_4
  exact (sim_ifS (sim_orB (sim_tsB (sim_op (sim_eq true) (sim_mth (cv := [.a, .a]) rfl (sim_var 3) (sim_cons (sim_var 13) sim_nil)) (sim_op sim_add (sim_blt sim_len (sim_cons (sim_var 4) sim_nil)) (sim_var 13)))) (sim_tsB (sim_op (sim_eq true) (sim_mth (cv := [.a, .a]) rfl (sim_var 3) (sim_cons (sim_op sim_add (sim_blt sim_len (sim_cons (sim_var 4) sim_nil)) (sim_var 13)) sim_nil)) (sim_var 13)))) (sim_ret (sim_bl _)) sim_pas)
def c_law (p_law_begin : Spec) (p_law_parts : Spec) (p_law_made : Spec) (p_Net_form : Spec) (p_law_right : Spec) (p_Net_links_at : Spec) (p_Net_hosts_at : Spec) (p_Net_far : Spec) (p_Net_host_at : Spec) (p_Net_host_door : Spec) (p_law_changed : Spec) : WS :=
  (wSq (wAsg 1 (wCall 1 p_law_begin (wCons (wVar 0) wNil)))
  (wSq (wAsg 2 (wCall 1 p_law_parts (wCons (wVar 1) wNil)))
  (wSq (wAsg 3 (wCall 1 p_law_made (wCons (wVar 2) wNil)))
  (wSq (wIfS (wOrB (wNotB (wTst (wCall 2 p_law_right (wCons (wVar 3) (wCons (wVar 2) wNil))))) (wTsB (wOp (cmpD .NotEq) (wMth (Str.ofString "Net") (Str.ofString "form") 0 p_Net_form (wVar 3) wNil) (wMth (Str.ofString "Net") (Str.ofString "form") 0 p_Net_form (wCall 1 p_law_made (wCons (wVar 2) wNil)) wNil)))) (wRet (wCst (.bl false))) wPas)
  (wSq (wAsg 4 (wOp idxD (wVar 2) (wCst (.int 3))))
  (wSq (wAsg 5 (wOp idxD (wVar 2) (wCst (.int 4))))
  (wSq (wFor (wRng (wCons (wBlt lenC (wCons (wOp idxD (wVar 2) (wCst (.int 2))) wNil)) wNil)) (.nm 6) (c_law_2 p_law_begin p_law_parts p_law_made p_Net_form p_law_right p_Net_links_at p_Net_hosts_at p_Net_far p_Net_host_at p_Net_host_door p_law_changed))
  (wSq (wFor (wRng (wCons (wBlt lenC (wCons (wVar 4) wNil)) wNil)) (.nm 9) (c_law_3 p_law_begin p_law_parts p_law_made p_Net_form p_law_right p_Net_links_at p_Net_hosts_at p_Net_far p_Net_host_at p_Net_host_door p_law_changed))
  (wSq (wFor (wRng (wCons (wBlt lenC (wCons (wVar 5) wNil)) wNil)) (.nm 13) (c_law_4 p_law_begin p_law_parts p_law_made p_Net_form p_law_right p_Net_links_at p_Net_hosts_at p_Net_far p_Net_host_at p_Net_host_door p_law_changed))
  (wSq (wAsg 11 (wCall 1 p_law_made (wCons (wCall 2 p_law_changed (wCons (wVar 1) (wCons (wVar 2) wNil))) wNil)))
  (wRet (wAndV (wOp (cmpD .NotEq) (wMth (Str.ofString "Net") (Str.ofString "form") 0 p_Net_form (wVar 11) wNil) (wMth (Str.ofString "Net") (Str.ofString "form") 0 p_Net_form (wVar 3) wNil)) (wIsi .tup (wMth (Str.ofString "Net") (Str.ofString "form") 0 p_Net_form (wVar 3) wNil))))))))))))))
def v_law (q_law_begin : VSpec) (q_law_parts : VSpec) (q_law_made : VSpec) (q_Net_form : VSpec) (q_law_right : VSpec) (q_Net_links_at : VSpec) (q_Net_hosts_at : VSpec) (q_Net_far : VSpec) (q_Net_host_at : VSpec) (q_Net_host_door : VSpec) (q_law_changed : VSpec) : VS :=
  (vSq (vAsg 1 (vCall [.a] q_law_begin (vCons (vVar 0) vNil)))
  (vSq (vAsg 2 (vCall [.io] q_law_parts (vCons (vVar 1) vNil)))
  (vSq (vAsg 3 (vCall [.a] q_law_made (vCons (vVar 2) vNil)))
  (vSq (vIfS (vOrB (vNotB (vTst (vCall [.a, .a] q_law_right (vCons (vVar 3) (vCons (vVar 2) vNil))))) (vTsB (vOp (oEq true) (vMth (Str.ofString "Net") (Str.ofString "form") [.a] q_Net_form (vVar 3) vNil) (vMth (Str.ofString "Net") (Str.ofString "form") [.a] q_Net_form (vCall [.a] q_law_made (vCons (vVar 2) vNil)) vNil)))) (vRet (vCst (.bl false))) vPas)
  (vSq (vAsg 4 (vOp oIdx (vVar 2) (vCst (np 3))))
  (vSq (vAsg 5 (vOp oIdx (vVar 2) (vCst (np 4))))
  (vSq (vFor (vRng (vCons (vBlt cLen (vCons (vOp oIdx (vVar 2) (vCst (np 2))) vNil)) vNil)) (.nm 6) (v_law_2 q_law_begin q_law_parts q_law_made q_Net_form q_law_right q_Net_links_at q_Net_hosts_at q_Net_far q_Net_host_at q_Net_host_door q_law_changed))
  (vSq (vFor (vRng (vCons (vBlt cLen (vCons (vVar 4) vNil)) vNil)) (.nm 9) (v_law_3 q_law_begin q_law_parts q_law_made q_Net_form q_law_right q_Net_links_at q_Net_hosts_at q_Net_far q_Net_host_at q_Net_host_door q_law_changed))
  (vSq (vFor (vRng (vCons (vBlt cLen (vCons (vVar 5) vNil)) vNil)) (.nm 13) (v_law_4 q_law_begin q_law_parts q_law_made q_Net_form q_law_right q_Net_links_at q_Net_hosts_at q_Net_far q_Net_host_at q_Net_host_door q_law_changed))
  (vSq (vAsg 11 (vCall [.a] q_law_made (vCons (vCall [.io, .a] q_law_changed (vCons (vVar 1) (vCons (vVar 2) vNil))) vNil)))
  (vRet (vAndV (vOp (oEq true) (vMth (Str.ofString "Net") (Str.ofString "form") [.a] q_Net_form (vVar 11) vNil) (vMth (Str.ofString "Net") (Str.ofString "form") [.a] q_Net_form (vVar 3) vNil)) (vIsi .tup (vMth (Str.ofString "Net") (Str.ofString "form") [.a] q_Net_form (vVar 3) vNil))))))))))))))
theorem sim_law (q_law_begin : VSpec) (q_law_parts : VSpec) (q_law_made : VSpec) (q_Net_form : VSpec) (q_law_right : VSpec) (q_Net_links_at : VSpec) (q_Net_hosts_at : VSpec) (q_Net_far : VSpec) (q_Net_host_at : VSpec) (q_Net_host_door : VSpec) (q_law_changed : VSpec) : SimS (c_law (up q_law_begin) (up q_law_parts) (up q_law_made) (up q_Net_form) (up q_law_right) (up q_Net_links_at) (up q_Net_hosts_at) (up q_Net_far) (up q_Net_host_at) (up q_Net_host_door) (up q_law_changed)) (v_law q_law_begin q_law_parts q_law_made q_Net_form q_law_right q_Net_links_at q_Net_hosts_at q_Net_far q_Net_host_at q_Net_host_door q_law_changed) := by
  unfold c_law v_law
  exact (sim_sq (sim_asg (sim_call (cv := [.a]) rfl (sim_cons (sim_var 0) sim_nil)))
  (sim_sq (sim_asg (sim_call (cv := [.io]) rfl (sim_cons (sim_var 1) sim_nil)))
  (sim_sq (sim_asg (sim_call (cv := [.a]) rfl (sim_cons (sim_var 2) sim_nil)))
  (sim_sq (sim_ifS (sim_orB (sim_notB (sim_tst (sim_call (cv := [.a, .a]) rfl (sim_cons (sim_var 3) (sim_cons (sim_var 2) sim_nil))))) (sim_tsB (sim_op (sim_eq true) (sim_mth (cv := [.a]) rfl (sim_var 3) sim_nil) (sim_mth (cv := [.a]) rfl (sim_call (cv := [.a]) rfl (sim_cons (sim_var 2) sim_nil)) sim_nil)))) (sim_ret (sim_bl _)) sim_pas)
  (sim_sq (sim_asg (sim_op sim_idx (sim_var 2) (sim_int 3)))
  (sim_sq (sim_asg (sim_op sim_idx (sim_var 2) (sim_int 4)))
  (sim_sq (sim_for (sim_rng (sim_cons (sim_blt sim_len (sim_cons (sim_op sim_idx (sim_var 2) (sim_int 2)) sim_nil)) sim_nil)) (sim_law_2 q_law_begin q_law_parts q_law_made q_Net_form q_law_right q_Net_links_at q_Net_hosts_at q_Net_far q_Net_host_at q_Net_host_door q_law_changed))
  (sim_sq (sim_for (sim_rng (sim_cons (sim_blt sim_len (sim_cons (sim_var 4) sim_nil)) sim_nil)) (sim_law_3 q_law_begin q_law_parts q_law_made q_Net_form q_law_right q_Net_links_at q_Net_hosts_at q_Net_far q_Net_host_at q_Net_host_door q_law_changed))
  (sim_sq (sim_for (sim_rng (sim_cons (sim_blt sim_len (sim_cons (sim_var 5) sim_nil)) sim_nil)) (sim_law_4 q_law_begin q_law_parts q_law_made q_Net_form q_law_right q_Net_links_at q_Net_hosts_at q_Net_far q_Net_host_at q_Net_host_door q_law_changed))
  (sim_sq (sim_asg (sim_call (cv := [.a]) rfl (sim_cons (sim_call (cv := [.io, .a]) rfl (sim_cons (sim_var 1) (sim_cons (sim_var 2) sim_nil))) sim_nil)))
  (sim_ret (sim_andV (sim_op (sim_eq true) (sim_mth (cv := [.a]) rfl (sim_var 11) sim_nil) (sim_mth (cv := [.a]) rfl (sim_var 3) sim_nil)) (sim_isi (sim_mth (cv := [.a]) rfl (sim_var 3) sim_nil))))))))))))))
def sp_law : VSpec := wpOf 14 (v_law sp_law_begin sp_law_parts sp_law_made sp_Net_form sp_law_right sp_Net_links_at sp_Net_hosts_at sp_Net_far sp_Net_host_at sp_Net_host_door sp_law_changed)
theorem run_law {u0 : V'} {Q : V' → List P → Prop} : sp_law [u0] Q = v_law sp_law_begin sp_law_parts sp_law_made sp_Net_form sp_law_right sp_Net_links_at sp_Net_hosts_at sp_Net_far sp_Net_host_at sp_Net_host_door sp_law_changed (kvOf [u0] Q) [some u0, none, none, none, none, none, none, none, none, none, none, none, none, none] := rfl
theorem good_law (hq : ∀ ns : List Int, sp_law [.p (.fro (ns.map .int))] fun v _ => v = .p (.bl true)) : Good 14 1 (c_law (up sp_law_begin) (up sp_law_parts) (up sp_law_made) (up sp_Net_form) (up sp_law_right) (up sp_Net_links_at) (up sp_Net_hosts_at) (up sp_Net_far) (up sp_Net_host_at) (up sp_Net_host_door) (up sp_law_changed)) sp_lawW := good_lawW (sim_law sp_law_begin sp_law_parts sp_law_made sp_Net_form sp_law_right sp_Net_links_at sp_Net_hosts_at sp_Net_far sp_Net_host_at sp_Net_host_door sp_law_changed) hq


end WW


set_option Elab.async false
set_option linter.all false
set_option maxRecDepth 100000
set_option maxHeartbeats 4000000
set_option autoImplicit false
namespace WW
open PySem PySem.Spec PyProof.Rows L2
local macro_rules | `(tactic| walk_at "w") => `(tactic| try simp -dsimp (disch := first | omega | (simp only [List.length_cons, List.length_nil]; omega)) only [↓fn_data, ↓fn_marks, ↓fn_width, ↓fn_switches, ↓fn_rooms, ↓fn_kinds, ↓fn_links, ↓fn_link_rooms, ↓fn_hosts, ↓fn_homes, ↓fn_tenants, ↓fn_relays, ↓fn_data_care, ↓fn_mark_care, ↓fn_near_links, ↓fn_near_hosts, mn_links_at, mn_hosts_at, mn_far, mn_host_door, mn_host_at, mn_link_lot, mn_form, ↓av_isi, ↓isi_non, ↓isi_bl, ↓isi_int, ↓isi_str, ↓isi_tup, ↓isi_lst, isiB, ↓av_fld, ↓av_fset, ↓av_mth, ↓av_callV, ↓av_mak, ↓av_var, ↓av_cst, ↓av_op, ↓av_neg, ↓av_notV, ↓av_andV, ↓av_orV, ↓av_chain, ↓av_if, ↓av_nil, ↓av_cons, ↓av_tup, ↓av_lst, ↓av_noP, ↓av_part, ↓av_slc, ↓av_bits, ↓av_tst, ↓av_tsB, ↓av_notB, ↓av_andB, ↓av_orB, ↓av_yes, ↓av_blt, ↓av_sset, ↓av_lstR, ↓av_tupR, ↓av_metR, ↓av_mut, ↓av_get, ↓av_srtK, ↓av_lc, ↓av_call, ↓av_seqI, ↓av_enum, ↓av_rng, ↓av_asg, ↓av_asgP, ↓av_set, ↓av_drop, ↓av_ret, ↓av_retN, ↓av_brk, ↓av_cnt, ↓av_pas, ↓av_sq, ↓av_ifS, ↓av_for, ↓av_forN, ↓av_forD, un_d, d_0, d_1, g_1, g_2, st_dct, ixv_dct, ↓hold1, ↓cnd_t, ↓cnd_f, cnd_pos, cnd_neg, ↓rd_slot, ↓rd_v, rds, val_p, val_b, val_o, val_io, own_o, own_io, re_o, re_io, mp_some, ↓src_v, ↓src_s, un_none, lock_none, ↓unK_none, ↓unK_some, lock_some, un_some, ↓asg_s, ↓asg_v', ↓ret_v, ↓ret_s, ↓kv_nx, ↓kv_rt, kL_nx, kL_ct, kL_bk, kL_rt, kL_ex, kS_nx, kS_ct, kS_bk, kS_rt, kS_ex, ↓kU_nx, ↓kU_ct, ↓kU_bk, ↓kU_rt, ↓kD_nx, ↓kD_ct, ↓kD_bk, kD_ex, ↓gv_some, ↓o_add, ↓o_sub, ↓o_and, ↓o_or, ↓o_xor, ↓o_shl1, ↓o_shr, ↓o_mod, ↓o_mulS, ↓o_divS, ↓o_lt, ↓o_le, ↓o_gt, ↓o_ge, ↓o_eq, ↓o_ne, ↓o_is, ↓o_isnot, nn_int, nn_non, nn_tup, nn_str, nn_lst, nn_bl, nn_obj, nn_dct, ↓sz_le', ↓sz_lt',  ↓t_bl, ↓t_np, ↓t_tup, ↓t_lst, ↓b_bl, ↓i_int, ↓i_np, ↓i_np2, ↓c_int1, ↓c_len1, ↓c_len2, ↓c_tup1, ↓c_tup2, ↓c_lst1, ↓c_lst2, ↓c_lst3, ↓c_str1, ↓c_strI, cut_to, cut_from, List.take_succ_cons, List.take_zero, List.drop_succ_cons, List.drop_zero, List.take_nil, List.drop_nil, ↓sl_tup, ↓sl_lst, ↓sl_fro, ↓a_lst, ↓a_tup, ↓a_str, ↓m_app', is_lst, is_tup, is_tupL, ba_tup, ba_lst, it_tup, it_lst, ↓ix_tup, ↓ix_lst, st_lst, lk, pt, take1, takeL, tks, ioSl, ioOk, ioOk1, clash, cvt, putIO, outs, bor, bindVP, bindVL, pasAll, pasB, wipeV, restV, Option.map_some, Option.map_none, List.all_cons, List.all_nil, Bool.and_true, Bool.true_and, Bool.not_true, Bool.not_false, Bool.false_and, Bool.and_false, true_and, and_true, reduceIte, decide_true, decide_false, List.map_cons, List.map_nil, List.length_cons, List.length_nil, List.cons_append, List.nil_append, List.append_nil, List.replicate, List.getElem?_cons_zero, List.getElem?_cons_succ, List.set_cons_zero, List.set_cons_succ, Nat.reduceBEq, Nat.reduceSub, Nat.reduceAdd, Nat.reduceMul, Bool.not_not])
local macro_rules | `(tactic| walk_at "wh") => `(tactic| try simp -dsimp (disch := first | omega | (simp only [List.length_cons, List.length_nil]; omega)) only [↓fn_data, ↓fn_marks, ↓fn_width, ↓fn_switches, ↓fn_rooms, ↓fn_kinds, ↓fn_links, ↓fn_link_rooms, ↓fn_hosts, ↓fn_homes, ↓fn_tenants, ↓fn_relays, ↓fn_data_care, ↓fn_mark_care, ↓fn_near_links, ↓fn_near_hosts, mn_links_at, mn_hosts_at, mn_far, mn_host_door, mn_host_at, mn_link_lot, mn_form, ↓av_isi, ↓isi_non, ↓isi_bl, ↓isi_int, ↓isi_str, ↓isi_tup, ↓isi_lst, isiB, ↓av_fld, ↓av_fset, ↓av_mth, ↓av_callV, ↓av_mak, ↓av_var, ↓av_cst, ↓av_op, ↓av_neg, ↓av_notV, ↓av_andV, ↓av_orV, ↓av_chain, ↓av_if, ↓av_nil, ↓av_cons, ↓av_tup, ↓av_lst, ↓av_noP, ↓av_part, ↓av_slc, ↓av_bits, ↓av_tst, ↓av_tsB, ↓av_notB, ↓av_andB, ↓av_orB, ↓av_yes, ↓av_blt, ↓av_sset, ↓av_lstR, ↓av_tupR, ↓av_metR, ↓av_mut, ↓av_get, ↓av_srtK, ↓av_lc, ↓av_call, ↓av_seqI, ↓av_enum, ↓av_rng, ↓av_asg, ↓av_asgP, ↓av_set, ↓av_drop, ↓av_ret, ↓av_retN, ↓av_brk, ↓av_cnt, ↓av_pas, ↓av_sq, ↓av_ifS, ↓av_for, ↓av_forN, ↓av_forD, un_d, d_0, d_1, g_1, g_2, st_dct, ixv_dct, ↓hold1, ↓cnd_t, ↓cnd_f, cnd_pos, cnd_neg, ↓rd_slot, ↓rd_v, rds, val_p, val_b, val_o, val_io, own_o, own_io, re_o, re_io, mp_some, ↓src_v, ↓src_s, un_none, lock_none, ↓unK_none, ↓unK_some, lock_some, un_some, ↓asg_s, ↓asg_v', ↓ret_v, ↓ret_s, ↓kv_nx, ↓kv_rt, kL_nx, kL_ct, kL_bk, kL_rt, kL_ex, kS_nx, kS_ct, kS_bk, kS_rt, kS_ex, ↓kU_nx, ↓kU_ct, ↓kU_bk, ↓kU_rt, ↓kD_nx, ↓kD_ct, ↓kD_bk, kD_ex, ↓gv_some, ↓o_add, ↓o_sub, ↓o_and, ↓o_or, ↓o_xor, ↓o_shl1, ↓o_shr, ↓o_mod, ↓o_mulS, ↓o_divS, ↓o_lt, ↓o_le, ↓o_gt, ↓o_ge, ↓o_eq, ↓o_ne, ↓o_is, ↓o_isnot, nn_int, nn_non, nn_tup, nn_str, nn_lst, nn_bl, nn_obj, nn_dct, ↓sz_le', ↓sz_lt',  ↓t_bl, ↓t_np, ↓t_tup, ↓t_lst, ↓b_bl, ↓i_int, ↓i_np, ↓i_np2, ↓c_int1, ↓c_len1, ↓c_len2, ↓c_tup1, ↓c_tup2, ↓c_lst1, ↓c_lst2, ↓c_lst3, ↓c_str1, ↓c_strI, cut_to, cut_from, List.take_succ_cons, List.take_zero, List.drop_succ_cons, List.drop_zero, List.take_nil, List.drop_nil, ↓sl_tup, ↓sl_lst, ↓sl_fro, ↓a_lst, ↓a_tup, ↓a_str, ↓m_app', is_lst, is_tup, is_tupL, ba_tup, ba_lst, it_tup, it_lst, ↓ix_tup, ↓ix_lst, st_lst, lk, pt, take1, takeL, tks, ioSl, ioOk, ioOk1, clash, cvt, putIO, outs, bor, bindVP, bindVL, pasAll, pasB, wipeV, restV, Option.map_some, Option.map_none, List.all_cons, List.all_nil, Bool.and_true, Bool.true_and, Bool.not_true, Bool.not_false, Bool.false_and, Bool.and_false, true_and, and_true, reduceIte, decide_true, decide_false, List.map_cons, List.map_nil, List.length_cons, List.length_nil, List.cons_append, List.nil_append, List.append_nil, List.replicate, List.getElem?_cons_zero, List.getElem?_cons_succ, List.set_cons_zero, List.set_cons_succ, Nat.reduceBEq, Nat.reduceSub, Nat.reduceAdd, Nat.reduceMul, Bool.not_not, *])
theorem nmn_ok : ∀ k, k < 20 → (Str.ofString "n").length + (txN k).length ≤ 100 ∧ cln 0 (.str (nmN "n" k)) = true := by decide +kernel
theorem nmm_ok : ∀ k, k < 20 → (Str.ofString "m").length + (txN k).length ≤ 100 ∧ cln 0 (.str (nmN "m" k)) = true := by decide +kernel
structure PartsOk (n : NetV) : Prop where
  d : 1 ≤ n.data ∧ n.data ≤ 6
  m : n.marks ≤ 7
  s : 1 ≤ n.sws.length ∧ n.sws.length ≤ 8
  sw : ∀ s ∈ n.sws, s.room ≤ 400 ∧ s.blind ≤ 1 ∧ TxOk s.name
  l : n.lks.length ≤ 12
  le : EndsOk n.sws.length n.ends
  h : n.hos.length ≤ 8
  ho : ∀ h ∈ n.hos, h.home < n.sws.length ∧ h.relay ≤ 1 ∧ TxOk h.name ∧ TxOk h.tenant
def partsP (n : NetV) : List P := [np n.data, np n.marks, .tup (n.sws.map swP), .tup (n.lks.map lkP), .tup (n.hos.map hoP)]
theorem law_parts {x : P} {Q : V' → List P → Prop} (hD : Dr x) (q : ∀ n x', PartsOk n → Dr x' → Q (.o (.lst (partsP n))) [x']) : sp_law_parts [.io x] Q := by
  rw [run_law_parts]; unfold v_law_parts
  walk_at "w"
  refine law_draw hD (lst64 (by decide)) fun d0 x hd _ hD => ?_
  have hd := hd (by decide)
  walk_at "w"
  refine law_draw hD (lst64 (by decide)) fun mk x hm _ hD => ?_
  have hm := hm (by decide)
  walk_at "w"
  refine law_draw hD (lst64 (by decide)) fun s0 x hs _ hD => ?_
  have hs := hs (by decide)
  have pw : 2 ^ (1 + d0 + mk) ≤ 2 ^ 13 := Nat.pow_le_pow_right (by decide) (by omega)
  walk_at "w"
  refine forVn (fun i E => ∃ (x : P) (ss : List SwV) (a6 a7 : Option V'), Dr x ∧ ss.length = i ∧ (∀ s ∈ ss, s.room ≤ 400 ∧ s.blind ≤ 1 ∧ TxOk s.name) ∧ E = [some (.io x), some (.p (np (1 + d0))), some (.p (np mk)), some (.p (np (1 + s0))), some (.p (np (2 ^ (1 + d0 + mk)))), some (.o (.lst (ss.map swP))), a6, a7, none, none, none]) ⟨x, [], _, _, hD, rfl, (fun _ h => nomatch h), rfl⟩ (fun i E N hi hI hN => ?_) (fun E hI => ?_)
  · obtain ⟨x, ss, a6, a7, hD, hsl, hss, rfl⟩ := hI
    obtain ⟨n1, n2⟩ := nmn_ok i (by omega)
    unfold v_law_parts_1
    walk_at "w"
    refine law_draw hD (lst64 (by omega)) fun k1 x _ _ hD => ?_
    walk_at "w"
    refine law_draw hD (lst64 (by omega)) fun k2 x _ _ hD => ?_
    walk_at "w"
    refine law_draw hD (lst64 (by decide)) fun k3 x _ _ hD => ?_
    walk_at "w"
    refine law_draw hD (lst64 (by decide)) fun k4 x h4 _ hD => ?_
    have h4 := h4 (by decide)
    walk_at "w"
    refine law_draw hD (lst64 (by decide)) fun rm x hr _ hD => ?_
    have hr := hr (by decide)
    walk_at "w"
    refine ⟨sz_lt (by rw [List.length_map]; omega), ?_⟩
    refine hN _ ⟨x, ss ++ [⟨nmN "n" i, rm, k1, k2, 1 + k3, k4⟩], _, _, hD, by rw [List.length_append, hsl]; rfl, (fun z hz => ?_), by rw [List.map_append]; rfl⟩
    rcases List.mem_append.mp hz with h | h
    · exact hss z h
    · cases List.mem_singleton.mp h
      exact ⟨by show rm ≤ 400; omega, by show k4 ≤ 1; omega, n2⟩
  obtain ⟨x, ss, a6, a7, hD, hsl, hss, rfl⟩ := hI
  walk_at "w"
  refine law_draw hD (lst64 (by decide)) fun ex x he _ hD => ?_
  have he := he (by decide)
  walk_at "w"
  refine law_links hD (by omega) (by omega) fun ls x hls hll hD => ?_
  walk_at "w"
  refine lcI' (fun dn acc E => ∃ (x : P) (ks : List LkV), Dr x ∧ acc = ks.map lkP ∧ ks.map LkV.ends = dn ∧ E = [some (.io x), some (.p (np (1 + d0))), some (.p (np mk)), some (.p (np (1 + s0))), some (.p (np (2 ^ (1 + d0 + mk)))), some (.o (.lst (ss.map swP))), a6, a7, none, none, none]) ⟨x, [], hD, rfl, rfl, rfl⟩ (fun dn e r acc E N eq hI hN => ?_) (fun acc E hI => ?_)
  · obtain ⟨x, ks, hD, rfl, hk, rfl⟩ := hI
    have hkl : ks.length = dn.length := by rw [← hk, List.length_map]
    have hlen : ls.length = dn.length + (r.length + 1) := by rw [eq, List.length_append, List.length_cons]
    unfold prP
    walk_at "w"
    refine law_draw hD (lst64 (by decide)) fun rm x _ _ hD => ?_
    walk_at "w"
    refine ⟨sz_lt (by rw [List.length_map]; omega), ?_⟩
    exact hN _ _ ⟨x, ks ++ [⟨e.1, e.2, 1 + rm⟩], hD, by rw [List.map_append]; rfl, by rw [List.map_append, hk]; rfl, rfl⟩
  obtain ⟨x, ks, hD, rfl, hk, rfl⟩ := hI
  walk_at "w"
  rw [← List.map_take]
  refine law_draw hD (lst64 (by decide)) fun h0 x hh _ hD => ?_
  have hh := hh (by decide)
  walk_at "w"
  refine forVn (fun i E => ∃ (x : P) (hs : List HoV) (a6 : Option V'), Dr x ∧ hs.length = i ∧ (∀ h ∈ hs, h.home < 1 + s0 ∧ h.relay ≤ 1 ∧ TxOk h.name ∧ TxOk h.tenant) ∧ E = [some (.io x), some (.p (np (1 + d0))), some (.p (np mk)), some (.p (np (1 + s0))), some (.p (np (2 ^ (1 + d0 + mk)))), some (.o (.lst (ss.map swP))), a6, a7, some (.o (.lst ((ks.take 12).map lkP))), none, some (.o (.lst (hs.map hoP)))]) ⟨x, [], _, hD, rfl, (fun _ h => nomatch h), rfl⟩ (fun i E N hi hI hN => ?_) (fun E hI => ?_)
  · obtain ⟨x, hs, a6, hD, hhl, hhs, rfl⟩ := hI
    obtain ⟨n1, n2⟩ := nmm_ok i (by omega)
    unfold v_law_parts_2
    walk_at "w"
    refine law_draw hD (lst64 (by omega)) fun hm x h1 h2 hD => ?_
    have h1 := draw_lt h1 h2 (by omega)
    walk_at "w"
    refine law_pickL hD (.inl rfl) (by decide) (by decide) fun y x hy hD => ?_
    simp only [List.mem_cons, List.not_mem_nil, or_false] at hy
    obtain ⟨tn, rfl, ht⟩ : ∃ tn, y = P.str tn ∧ TxOk tn := by
      rcases hy with rfl | rfl | rfl
      · exact ⟨_, rfl, by unfold TxOk; decide +kernel⟩
      · exact ⟨_, rfl, by unfold TxOk; decide +kernel⟩
      · exact ⟨_, rfl, by unfold TxOk; decide +kernel⟩
    walk_at "w"
    refine law_draw hD (lst64 (by decide)) fun rl x hr _ hD => ?_
    have hr := hr (by decide)
    walk_at "w"
    refine ⟨sz_lt (by rw [List.length_map]; omega), ?_⟩
    refine hN _ ⟨x, hs ++ [⟨nmN "m" i, hm, tn, rl⟩], _, hD, by rw [List.length_append, hhl]; rfl, (fun z hz => ?_), by rw [List.map_append]; rfl⟩
    rcases List.mem_append.mp hz with h | h
    · exact hhs z h
    · cases List.mem_singleton.mp h
      exact ⟨h1, by show rl ≤ 1; omega, n2, ht⟩
  obtain ⟨x, hs, a6, hD, hhl, hhs, rfl⟩ := hI
  walk_at "w"
  refine q ⟨1 + d0, mk, ss, ks.take 12, hs⟩ x ⟨⟨by show 1 ≤ 1 + d0; omega, by show 1 + d0 ≤ 6; omega⟩, by show mk ≤ 7; omega, ⟨by show 1 ≤ ss.length; omega, by show ss.length ≤ 8; omega⟩, hss, by show (ks.take 12).length ≤ 12; rw [List.length_take]; omega, fun e he => ?_, by show hs.length ≤ 8; omega, fun h hh => ?_⟩ hD
  · have he : e ∈ (ks.take 12).map LkV.ends := he
    rw [List.map_take, hk] at he
    have := hls e (List.mem_of_mem_take he)
    rw [← hsl] at this
    exact this
  · have := hhs h hh
    rw [← hsl] at this
    exact this
end WW


set_option Elab.async false
set_option linter.all false
set_option maxRecDepth 100000
set_option maxHeartbeats 4000000
set_option autoImplicit false
namespace WW
open PySem PySem.Spec PyProof.Rows L2
local macro_rules | `(tactic| walk_at "w") => `(tactic| try simp -dsimp (disch := first | omega | (simp only [List.length_cons, List.length_nil]; omega)) only [↓fn_data, ↓fn_marks, ↓fn_width, ↓fn_switches, ↓fn_rooms, ↓fn_kinds, ↓fn_links, ↓fn_link_rooms, ↓fn_hosts, ↓fn_homes, ↓fn_tenants, ↓fn_relays, ↓fn_data_care, ↓fn_mark_care, ↓fn_near_links, ↓fn_near_hosts, mn_links_at, mn_hosts_at, mn_far, mn_host_door, mn_host_at, mn_link_lot, mn_form, ↓av_isi, ↓isi_non, ↓isi_bl, ↓isi_int, ↓isi_str, ↓isi_tup, ↓isi_lst, isiB, ↓av_fld, ↓av_fset, ↓av_mth, ↓av_callV, ↓av_mak, ↓av_var, ↓av_cst, ↓av_op, ↓av_neg, ↓av_notV, ↓av_andV, ↓av_orV, ↓av_chain, ↓av_if, ↓av_nil, ↓av_cons, ↓av_tup, ↓av_lst, ↓av_noP, ↓av_part, ↓av_slc, ↓av_bits, ↓av_tst, ↓av_tsB, ↓av_notB, ↓av_andB, ↓av_orB, ↓av_yes, ↓av_blt, ↓av_sset, ↓av_lstR, ↓av_tupR, ↓av_metR, ↓av_mut, ↓av_get, ↓av_srtK, ↓av_lc, ↓av_call, ↓av_seqI, ↓av_enum, ↓av_rng, ↓av_asg, ↓av_asgP, ↓av_set, ↓av_drop, ↓av_ret, ↓av_retN, ↓av_brk, ↓av_cnt, ↓av_pas, ↓av_sq, ↓av_ifS, ↓av_for, ↓av_forN, ↓av_forD, un_d, d_0, d_1, g_1, g_2, st_dct, ixv_dct, ↓hold1, ↓cnd_t, ↓cnd_f, cnd_pos, cnd_neg, ↓rd_slot, ↓rd_v, rds, val_p, val_b, val_o, val_io, own_o, own_io, re_o, re_io, mp_some, ↓src_v, ↓src_s, un_none, lock_none, ↓unK_none, ↓unK_some, lock_some, un_some, ↓asg_s, ↓asg_v', ↓ret_v, ↓ret_s, ↓kv_nx, ↓kv_rt, kL_nx, kL_ct, kL_bk, kL_rt, kL_ex, kS_nx, kS_ct, kS_bk, kS_rt, kS_ex, ↓kU_nx, ↓kU_ct, ↓kU_bk, ↓kU_rt, ↓kD_nx, ↓kD_ct, ↓kD_bk, kD_ex, ↓gv_some, ↓o_add, ↓o_sub, ↓o_and, ↓o_or, ↓o_xor, ↓o_shl1, ↓o_shr, ↓o_mod, ↓o_mulS, ↓o_divS, ↓o_lt, ↓o_le, ↓o_gt, ↓o_ge, ↓o_eq, ↓o_ne, ↓o_is, ↓o_isnot, nn_int, nn_non, nn_tup, nn_str, nn_lst, nn_bl, nn_obj, nn_dct, ↓sz_le', ↓sz_lt',  ↓t_bl, ↓t_np, ↓t_tup, ↓t_lst, ↓b_bl, ↓i_int, ↓i_np, ↓i_np2, ↓c_int1, ↓c_len1, ↓c_len2, ↓c_tup1, ↓c_tup2, ↓c_lst1, ↓c_lst2, ↓c_lst3, ↓c_str1, ↓c_strI, cut_to, cut_from, List.take_succ_cons, List.take_zero, List.drop_succ_cons, List.drop_zero, List.take_nil, List.drop_nil, ↓sl_tup, ↓sl_lst, ↓sl_fro, ↓a_lst, ↓a_tup, ↓a_str, ↓m_app', is_lst, is_tup, is_tupL, ba_tup, ba_lst, it_tup, it_lst, ↓ix_tup, ↓ix_lst, st_lst, lk, pt, take1, takeL, tks, ioSl, ioOk, ioOk1, clash, cvt, putIO, outs, bor, bindVP, bindVL, pasAll, pasB, wipeV, restV, Option.map_some, Option.map_none, List.all_cons, List.all_nil, Bool.and_true, Bool.true_and, Bool.not_true, Bool.not_false, Bool.false_and, Bool.and_false, true_and, and_true, reduceIte, decide_true, decide_false, List.map_cons, List.map_nil, List.length_cons, List.length_nil, List.cons_append, List.nil_append, List.append_nil, List.replicate, List.getElem?_cons_zero, List.getElem?_cons_succ, List.set_cons_zero, List.set_cons_succ, Nat.reduceBEq, Nat.reduceSub, Nat.reduceAdd, Nat.reduceMul, Bool.not_not])
local macro_rules | `(tactic| walk_at "wh") => `(tactic| try simp -dsimp (disch := first | omega | (simp only [List.length_cons, List.length_nil]; omega)) only [↓fn_data, ↓fn_marks, ↓fn_width, ↓fn_switches, ↓fn_rooms, ↓fn_kinds, ↓fn_links, ↓fn_link_rooms, ↓fn_hosts, ↓fn_homes, ↓fn_tenants, ↓fn_relays, ↓fn_data_care, ↓fn_mark_care, ↓fn_near_links, ↓fn_near_hosts, mn_links_at, mn_hosts_at, mn_far, mn_host_door, mn_host_at, mn_link_lot, mn_form, ↓av_isi, ↓isi_non, ↓isi_bl, ↓isi_int, ↓isi_str, ↓isi_tup, ↓isi_lst, isiB, ↓av_fld, ↓av_fset, ↓av_mth, ↓av_callV, ↓av_mak, ↓av_var, ↓av_cst, ↓av_op, ↓av_neg, ↓av_notV, ↓av_andV, ↓av_orV, ↓av_chain, ↓av_if, ↓av_nil, ↓av_cons, ↓av_tup, ↓av_lst, ↓av_noP, ↓av_part, ↓av_slc, ↓av_bits, ↓av_tst, ↓av_tsB, ↓av_notB, ↓av_andB, ↓av_orB, ↓av_yes, ↓av_blt, ↓av_sset, ↓av_lstR, ↓av_tupR, ↓av_metR, ↓av_mut, ↓av_get, ↓av_srtK, ↓av_lc, ↓av_call, ↓av_seqI, ↓av_enum, ↓av_rng, ↓av_asg, ↓av_asgP, ↓av_set, ↓av_drop, ↓av_ret, ↓av_retN, ↓av_brk, ↓av_cnt, ↓av_pas, ↓av_sq, ↓av_ifS, ↓av_for, ↓av_forN, ↓av_forD, un_d, d_0, d_1, g_1, g_2, st_dct, ixv_dct, ↓hold1, ↓cnd_t, ↓cnd_f, cnd_pos, cnd_neg, ↓rd_slot, ↓rd_v, rds, val_p, val_b, val_o, val_io, own_o, own_io, re_o, re_io, mp_some, ↓src_v, ↓src_s, un_none, lock_none, ↓unK_none, ↓unK_some, lock_some, un_some, ↓asg_s, ↓asg_v', ↓ret_v, ↓ret_s, ↓kv_nx, ↓kv_rt, kL_nx, kL_ct, kL_bk, kL_rt, kL_ex, kS_nx, kS_ct, kS_bk, kS_rt, kS_ex, ↓kU_nx, ↓kU_ct, ↓kU_bk, ↓kU_rt, ↓kD_nx, ↓kD_ct, ↓kD_bk, kD_ex, ↓gv_some, ↓o_add, ↓o_sub, ↓o_and, ↓o_or, ↓o_xor, ↓o_shl1, ↓o_shr, ↓o_mod, ↓o_mulS, ↓o_divS, ↓o_lt, ↓o_le, ↓o_gt, ↓o_ge, ↓o_eq, ↓o_ne, ↓o_is, ↓o_isnot, nn_int, nn_non, nn_tup, nn_str, nn_lst, nn_bl, nn_obj, nn_dct, ↓sz_le', ↓sz_lt',  ↓t_bl, ↓t_np, ↓t_tup, ↓t_lst, ↓b_bl, ↓i_int, ↓i_np, ↓i_np2, ↓c_int1, ↓c_len1, ↓c_len2, ↓c_tup1, ↓c_tup2, ↓c_lst1, ↓c_lst2, ↓c_lst3, ↓c_str1, ↓c_strI, cut_to, cut_from, List.take_succ_cons, List.take_zero, List.drop_succ_cons, List.drop_zero, List.take_nil, List.drop_nil, ↓sl_tup, ↓sl_lst, ↓sl_fro, ↓a_lst, ↓a_tup, ↓a_str, ↓m_app', is_lst, is_tup, is_tupL, ba_tup, ba_lst, it_tup, it_lst, ↓ix_tup, ↓ix_lst, st_lst, lk, pt, take1, takeL, tks, ioSl, ioOk, ioOk1, clash, cvt, putIO, outs, bor, bindVP, bindVL, pasAll, pasB, wipeV, restV, Option.map_some, Option.map_none, List.all_cons, List.all_nil, Bool.and_true, Bool.true_and, Bool.not_true, Bool.not_false, Bool.false_and, Bool.and_false, true_and, and_true, reduceIte, decide_true, decide_false, List.map_cons, List.map_nil, List.length_cons, List.length_nil, List.cons_append, List.nil_append, List.append_nil, List.replicate, List.getElem?_cons_zero, List.getElem?_cons_succ, List.set_cons_zero, List.set_cons_succ, Nat.reduceBEq, Nat.reduceSub, Nat.reduceAdd, Nat.reduceMul, Bool.not_not, *])
theorem parts_ok {n : NetV} (h : PartsOk n) : NetOk n := ⟨Nat.le_trans h.d.2 (by decide), Nat.le_trans h.m (by decide), Nat.le_trans h.s.2 (by decide), Nat.le_trans h.l (by decide), Nat.le_trans h.h (by decide)⟩
theorem law_made {n : NetV} {u : V'} {Q : V' → List P → Prop} (hn : NetOk n) (hu : Rd' u (.lst (partsP n))) (q : Q (.o (netP n)) []) : sp_law_made [u] Q := by
  rw [run_law_made]; unfold v_law_made
  rcases hu with rfl | rfl
  all_goals
    unfold partsP
    walk_at "w"
    refine mak_Net hn ?_
    walk_at "w"
    exact q
theorem law_right {n : NetV} {u v : V'} {Q : V' → List P → Prop} (h : PartsOk n) (hu : Rd' u (netP n)) (hv : Rd' v (.lst (partsP n))) (q : Q (.p (.bl true)) []) : sp_law_right [u, v] Q := by
  obtain ⟨⟨d1, d2⟩, m1, ⟨s1, s2⟩, sw, l1, le, h1, ho⟩ := h
  have pd := Nat.two_pow_pos n.data
  have pm := Nat.two_pow_pos n.marks
  have pl := Nat.two_pow_pos n.lks.length
  have pdm : 2 ^ n.data ≤ 2 ^ (n.data + n.marks) := Nat.pow_le_pow_right (by decide) (by omega)
  have cs : ∀ k, cln (k + 1) (.tup (n.sws.map fun s => .str s.name)) = true := fun k => cln_tmap fun s hs => cln_str (sw s hs).2.2
  have ch : ∀ k, cln (k + 1) (.tup (n.hos.map fun s => .str s.name)) = true := fun k => cln_tmap fun s hs => cln_str (ho s hs).2.2.1
  have ct : ∀ k, cln (k + 1) (.tup (n.hos.map fun s => .str s.tenant)) = true := fun k => cln_tmap fun s hs => cln_str (ho s hs).2.2.2
  rw [run_law_right]; unfold v_law_right
  rcases hu with rfl | rfl <;> rcases hv with rfl | rfl
  all_goals
    unfold partsP
    walk_at "w"
    refine (o_selfN (cln_nps (l := [n.data, n.marks, n.data + n.marks]))).mpr ?_
    walk_at "w"
    refine lcT (g := swP) (f := fun s => .str s.name) (bd := _) (fun _ => rfl) (fun _ => rfl) (by omega) (fun i _ Q hQ => ?_) ?_
    · unfold swP
      walk_at "w"
      exact hQ _ rfl
    walk_at "w"
    refine (o_selfN (cs 63)).mpr ?_
    walk_at "w"
    refine lcT (g := swP) (f := fun s => np s.room) (bd := _) (fun _ => rfl) (fun _ => rfl) (by omega) (fun i _ Q hQ => ?_) ?_
    · unfold swP
      walk_at "w"
      exact hQ _ rfl
    walk_at "w"
    refine (o_selfN (cln_tmap fun s _ => cln_np 63 s.room)).mpr ?_
    walk_at "w"
    refine lcT (g := swP) (f := kindP) (bd := _) (fun _ => rfl) (fun _ => rfl) (by omega) (fun i _ Q hQ => ?_) ?_
    · unfold swP
      walk_at "w"
      exact hQ _ rfl
    walk_at "w"
    refine (o_selfN (cln_tmap fun s _ => cln_nps (l := [s.sees, s.hands, s.falls, s.blind]))).mpr ?_
    walk_at "w"
    refine lcT (g := lkP) (f := fun l => prP l.ends) (bd := _) (fun _ => rfl) (fun _ => rfl) (by omega) (fun i _ Q hQ => ?_) ?_
    · unfold lkP
      walk_at "w"
      exact hQ _ rfl
    walk_at "w"
    refine (o_eqC (cln_tmap fun e _ => cln_pr e 62) (cln_tmap fun e _ => cln_pr _ 62)).mpr ?_
    rw [decide_eq_true (by unfold NetV.ends; rw [List.map_map]; rfl), sg_t]
    walk_at "w"
    refine lcT (g := lkP) (f := fun l => np l.room) (bd := _) (fun _ => rfl) (fun _ => rfl) (by omega) (fun i _ Q hQ => ?_) ?_
    · unfold lkP
      walk_at "w"
      exact hQ _ rfl
    walk_at "w"
    refine (o_selfN (cln_tmap fun s _ => cln_np 63 s.room)).mpr ?_
    walk_at "w"
    refine lcT (g := hoP) (f := fun s => .str s.name) (bd := _) (fun _ => rfl) (fun _ => rfl) (by omega) (fun i _ Q hQ => ?_) ?_
    · unfold hoP
      walk_at "w"
      exact hQ _ rfl
    walk_at "w"
    refine (o_selfN (ch 63)).mpr ?_
    walk_at "w"
    refine lcT (g := hoP) (f := fun l => np l.home) (bd := _) (fun _ => rfl) (fun _ => rfl) (by omega) (fun i _ Q hQ => ?_) ?_
    · unfold hoP
      walk_at "w"
      exact hQ _ rfl
    walk_at "w"
    refine (o_eqC cln_nps (cln_tmap fun s _ => cln_np 63 s.home)).mpr ?_
    rw [decide_eq_true (by unfold NetV.homes; rw [List.map_map]; rfl), sg_t]
    walk_at "w"
    refine lcT (g := hoP) (f := fun s => .str s.tenant) (bd := _) (fun _ => rfl) (fun _ => rfl) (by omega) (fun i _ Q hQ => ?_) ?_
    · unfold hoP
      walk_at "w"
      exact hQ _ rfl
    walk_at "w"
    refine (o_selfN (ct 63)).mpr ?_
    walk_at "w"
    refine lcT (g := hoP) (f := fun s => np s.relay) (bd := _) (fun _ => rfl) (fun _ => rfl) (by omega) (fun i _ Q hQ => ?_) ?_
    · unfold hoP
      walk_at "w"
      exact hQ _ rfl
    walk_at "w"
    refine (o_selfN (cln_tmap fun s _ => cln_np 63 s.relay)).mpr ?_
    walk_at "w"
    refine law_link_lot (n := n) (by first | exact .inl rfl | exact .inr rfl) (by omega) ?_
    walk_at "w"
    simp only [List.length_map]
    walk_at "w"
    have e1 : decide ((2 ^ n.marks - 1) * 2 ^ n.data = 2 ^ (n.data + n.marks) - 2 ^ n.data) = true := decide_eq_true (by rw [Nat.sub_mul, Nat.one_mul, Nat.pow_add, Nat.mul_comm])
    simp only [e1]
    exact q
end WW


set_option Elab.async false
set_option linter.all false
set_option maxRecDepth 100000
set_option maxHeartbeats 4000000
set_option autoImplicit false
namespace WW
open PySem PySem.Spec PyProof.Rows L2
local macro_rules | `(tactic| walk_at "w") => `(tactic| try simp -dsimp (disch := first | omega | (simp only [List.length_cons, List.length_nil]; omega)) only [↓fn_data, ↓fn_marks, ↓fn_width, ↓fn_switches, ↓fn_rooms, ↓fn_kinds, ↓fn_links, ↓fn_link_rooms, ↓fn_hosts, ↓fn_homes, ↓fn_tenants, ↓fn_relays, ↓fn_data_care, ↓fn_mark_care, ↓fn_near_links, ↓fn_near_hosts, mn_links_at, mn_hosts_at, mn_far, mn_host_door, mn_host_at, mn_link_lot, mn_form, ↓av_isi, ↓isi_non, ↓isi_bl, ↓isi_int, ↓isi_str, ↓isi_tup, ↓isi_lst, isiB, ↓av_fld, ↓av_fset, ↓av_mth, ↓av_callV, ↓av_mak, ↓av_var, ↓av_cst, ↓av_op, ↓av_neg, ↓av_notV, ↓av_andV, ↓av_orV, ↓av_chain, ↓av_if, ↓av_nil, ↓av_cons, ↓av_tup, ↓av_lst, ↓av_noP, ↓av_part, ↓av_slc, ↓av_bits, ↓av_tst, ↓av_tsB, ↓av_notB, ↓av_andB, ↓av_orB, ↓av_yes, ↓av_blt, ↓av_sset, ↓av_lstR, ↓av_tupR, ↓av_metR, ↓av_mut, ↓av_get, ↓av_srtK, ↓av_lc, ↓av_call, ↓av_seqI, ↓av_enum, ↓av_rng, ↓av_asg, ↓av_asgP, ↓av_set, ↓av_drop, ↓av_ret, ↓av_retN, ↓av_brk, ↓av_cnt, ↓av_pas, ↓av_sq, ↓av_ifS, ↓av_for, ↓av_forN, ↓av_forD, un_d, d_0, d_1, g_1, g_2, st_dct, ixv_dct, ↓hold1, ↓cnd_t, ↓cnd_f, cnd_pos, cnd_neg, ↓rd_slot, ↓rd_v, rds, val_p, val_b, val_o, val_io, own_o, own_io, re_o, re_io, mp_some, ↓src_v, ↓src_s, un_none, lock_none, ↓unK_none, ↓unK_some, lock_some, un_some, ↓asg_s, ↓asg_v', ↓ret_v, ↓ret_s, ↓kv_nx, ↓kv_rt, kL_nx, kL_ct, kL_bk, kL_rt, kL_ex, kS_nx, kS_ct, kS_bk, kS_rt, kS_ex, ↓kU_nx, ↓kU_ct, ↓kU_bk, ↓kU_rt, ↓kD_nx, ↓kD_ct, ↓kD_bk, kD_ex, ↓gv_some, ↓o_add, ↓o_sub, ↓o_and, ↓o_or, ↓o_xor, ↓o_shl1, ↓o_shr, ↓o_mod, ↓o_mulS, ↓o_divS, ↓o_lt, ↓o_le, ↓o_gt, ↓o_ge, ↓o_eq, ↓o_ne, ↓o_is, ↓o_isnot, nn_int, nn_non, nn_tup, nn_str, nn_lst, nn_bl, nn_obj, nn_dct, ↓sz_le', ↓sz_lt',  ↓t_bl, ↓t_np, ↓t_tup, ↓t_lst, ↓b_bl, ↓i_int, ↓i_np, ↓i_np2, ↓c_int1, ↓c_len1, ↓c_len2, ↓c_tup1, ↓c_tup2, ↓c_lst1, ↓c_lst2, ↓c_lst3, ↓c_str1, ↓c_strI, cut_to, cut_from, List.take_succ_cons, List.take_zero, List.drop_succ_cons, List.drop_zero, List.take_nil, List.drop_nil, ↓sl_tup, ↓sl_lst, ↓sl_fro, ↓a_lst, ↓a_tup, ↓a_str, ↓m_app', is_lst, is_tup, is_tupL, ba_tup, ba_lst, it_tup, it_lst, ↓ix_tup, ↓ix_lst, st_lst, lk, pt, take1, takeL, tks, ioSl, ioOk, ioOk1, clash, cvt, putIO, outs, bor, bindVP, bindVL, pasAll, pasB, wipeV, restV, Option.map_some, Option.map_none, List.all_cons, List.all_nil, Bool.and_true, Bool.true_and, Bool.not_true, Bool.not_false, Bool.false_and, Bool.and_false, true_and, and_true, reduceIte, decide_true, decide_false, List.map_cons, List.map_nil, List.length_cons, List.length_nil, List.cons_append, List.nil_append, List.append_nil, List.replicate, List.getElem?_cons_zero, List.getElem?_cons_succ, List.set_cons_zero, List.set_cons_succ, Nat.reduceBEq, Nat.reduceSub, Nat.reduceAdd, Nat.reduceMul, Bool.not_not])
local macro_rules | `(tactic| walk_at "wh") => `(tactic| try simp -dsimp (disch := first | omega | (simp only [List.length_cons, List.length_nil]; omega)) only [↓fn_data, ↓fn_marks, ↓fn_width, ↓fn_switches, ↓fn_rooms, ↓fn_kinds, ↓fn_links, ↓fn_link_rooms, ↓fn_hosts, ↓fn_homes, ↓fn_tenants, ↓fn_relays, ↓fn_data_care, ↓fn_mark_care, ↓fn_near_links, ↓fn_near_hosts, mn_links_at, mn_hosts_at, mn_far, mn_host_door, mn_host_at, mn_link_lot, mn_form, ↓av_isi, ↓isi_non, ↓isi_bl, ↓isi_int, ↓isi_str, ↓isi_tup, ↓isi_lst, isiB, ↓av_fld, ↓av_fset, ↓av_mth, ↓av_callV, ↓av_mak, ↓av_var, ↓av_cst, ↓av_op, ↓av_neg, ↓av_notV, ↓av_andV, ↓av_orV, ↓av_chain, ↓av_if, ↓av_nil, ↓av_cons, ↓av_tup, ↓av_lst, ↓av_noP, ↓av_part, ↓av_slc, ↓av_bits, ↓av_tst, ↓av_tsB, ↓av_notB, ↓av_andB, ↓av_orB, ↓av_yes, ↓av_blt, ↓av_sset, ↓av_lstR, ↓av_tupR, ↓av_metR, ↓av_mut, ↓av_get, ↓av_srtK, ↓av_lc, ↓av_call, ↓av_seqI, ↓av_enum, ↓av_rng, ↓av_asg, ↓av_asgP, ↓av_set, ↓av_drop, ↓av_ret, ↓av_retN, ↓av_brk, ↓av_cnt, ↓av_pas, ↓av_sq, ↓av_ifS, ↓av_for, ↓av_forN, ↓av_forD, un_d, d_0, d_1, g_1, g_2, st_dct, ixv_dct, ↓hold1, ↓cnd_t, ↓cnd_f, cnd_pos, cnd_neg, ↓rd_slot, ↓rd_v, rds, val_p, val_b, val_o, val_io, own_o, own_io, re_o, re_io, mp_some, ↓src_v, ↓src_s, un_none, lock_none, ↓unK_none, ↓unK_some, lock_some, un_some, ↓asg_s, ↓asg_v', ↓ret_v, ↓ret_s, ↓kv_nx, ↓kv_rt, kL_nx, kL_ct, kL_bk, kL_rt, kL_ex, kS_nx, kS_ct, kS_bk, kS_rt, kS_ex, ↓kU_nx, ↓kU_ct, ↓kU_bk, ↓kU_rt, ↓kD_nx, ↓kD_ct, ↓kD_bk, kD_ex, ↓gv_some, ↓o_add, ↓o_sub, ↓o_and, ↓o_or, ↓o_xor, ↓o_shl1, ↓o_shr, ↓o_mod, ↓o_mulS, ↓o_divS, ↓o_lt, ↓o_le, ↓o_gt, ↓o_ge, ↓o_eq, ↓o_ne, ↓o_is, ↓o_isnot, nn_int, nn_non, nn_tup, nn_str, nn_lst, nn_bl, nn_obj, nn_dct, ↓sz_le', ↓sz_lt',  ↓t_bl, ↓t_np, ↓t_tup, ↓t_lst, ↓b_bl, ↓i_int, ↓i_np, ↓i_np2, ↓c_int1, ↓c_len1, ↓c_len2, ↓c_tup1, ↓c_tup2, ↓c_lst1, ↓c_lst2, ↓c_lst3, ↓c_str1, ↓c_strI, cut_to, cut_from, List.take_succ_cons, List.take_zero, List.drop_succ_cons, List.drop_zero, List.take_nil, List.drop_nil, ↓sl_tup, ↓sl_lst, ↓sl_fro, ↓a_lst, ↓a_tup, ↓a_str, ↓m_app', is_lst, is_tup, is_tupL, ba_tup, ba_lst, it_tup, it_lst, ↓ix_tup, ↓ix_lst, st_lst, lk, pt, take1, takeL, tks, ioSl, ioOk, ioOk1, clash, cvt, putIO, outs, bor, bindVP, bindVL, pasAll, pasB, wipeV, restV, Option.map_some, Option.map_none, List.all_cons, List.all_nil, Bool.and_true, Bool.true_and, Bool.not_true, Bool.not_false, Bool.false_and, Bool.and_false, true_and, and_true, reduceIte, decide_true, decide_false, List.map_cons, List.map_nil, List.length_cons, List.length_nil, List.cons_append, List.nil_append, List.append_nil, List.replicate, List.getElem?_cons_zero, List.getElem?_cons_succ, List.set_cons_zero, List.set_cons_succ, Nat.reduceBEq, Nat.reduceSub, Nat.reduceAdd, Nat.reduceMul, Bool.not_not, *])
theorem form_cln {n : NetV} (h1 : ∀ s ∈ n.sws, TxOk s.name) (h2 : ∀ h ∈ n.hos, TxOk h.name ∧ TxOk h.tenant) : cln 64 (formP n) = true := by
  refine cln_tup fun x hx => ?_
  simp only [List.mem_cons, List.not_mem_nil, or_false] at hx
  rcases hx with rfl | rfl | rfl | rfl | rfl | rfl | rfl | rfl | rfl | rfl | rfl
  · exact cln_np _ _
  · exact cln_np _ _
  · exact cln_tmap fun s hs => cln_str (h1 s hs)
  · exact cln_tmap fun s hs => cln_np _ _
  · exact cln_tmap fun s hs => cln_nps (l := [s.sees, s.hands, s.falls, s.blind])
  · exact cln_tmap fun e _ => cln_pr e 61
  · exact cln_tmap fun s hs => cln_np _ _
  · exact cln_tmap fun s hs => cln_str (h2 s hs).1
  · exact cln_nps
  · exact cln_tmap fun s hs => cln_str (h2 s hs).2
  · exact cln_tmap fun s hs => cln_np _ _
theorem np_eq {a b : Nat} : (np a = np b) = (a = b) := propext np_inj
/-- a net with one part changed -/
theorem law_changed {n : NetV} {x : P} {v : V'} {Q : V' → List P → Prop} (h : PartsOk n) (hD : Dr x) (hv : Rd' v (.lst (partsP n))) (q : ∀ (m : NetV) x', NetOk m → cln 64 (formP m) = true → formP m ≠ formP n → Dr x' → Q (.o (.lst (partsP m))) [x']) : sp_law_changed [.io x, v] Q := by
  obtain ⟨dt, mk, sws, lks, hos⟩ := n
  obtain ⟨⟨d1, d2⟩, m1, ⟨s1, s2⟩, sw, l1, le, h1, ho⟩ := h
  dsimp only at d1 d2 m1 s1 s2 sw l1 le h1 ho
  have hsw : ∀ s ∈ sws, TxOk s.name := fun s hs => (sw s hs).2.2
  have hho : ∀ h ∈ hos, TxOk h.name ∧ TxOk h.tenant := fun s hs => (ho s hs).2.2
  rw [run_law_changed]; unfold v_law_changed
  have main : ∀ v : V', (v = .p (.lst (partsP ⟨dt, mk, sws, lks, hos⟩)) ∨ v = .b (.lst (partsP ⟨dt, mk, sws, lks, hos⟩))) → True := fun _ _ => trivial
  rcases hv with rfl | rfl
  all_goals
    unfold partsP
    walk_at "w"
    refine law_draw hD (lst64 (by decide)) fun way x hw _ hD => ?_
    have hw := hw (by decide)
    walk_at "w"
    refine cnd_by (fun h0 => ?_) (fun h0 => ?_)
    · walk_at "w"
      refine cnd_by (fun h2 => ?_) (fun h2 => ?_)
      · walk_at "w"
        refine q ⟨1 + dt, mk, sws, lks, hos⟩ x ⟨by show 1 + dt ≤ 10; omega, by show mk ≤ 10; omega, by show sws.length ≤ 100; omega, by show lks.length ≤ 100; omega, by show hos.length ≤ 100; omega⟩ (form_cln hsw hho) (fun e => ?_) hD
        simp only [formP, P.tup.injEq, List.cons.injEq, np_eq] at e
        omega
      · walk_at "w"
        refine q ⟨1, mk, sws, lks, hos⟩ x ⟨by show 1 ≤ 10; omega, by show mk ≤ 10; omega, by show sws.length ≤ 100; omega, by show lks.length ≤ 100; omega, by show hos.length ≤ 100; omega⟩ (form_cln hsw hho) (fun e => ?_) hD
        simp only [formP, P.tup.injEq, List.cons.injEq, np_eq] at e
        omega
    walk_at "w"
    refine cnd_by (fun h0 => ?_) (fun h0 => ?_)
    · walk_at "w"
      refine cnd_by (fun h2 => ?_) (fun h2 => ?_)
      · walk_at "w"
        refine q ⟨dt, 1 + mk, sws, lks, hos⟩ x ⟨by show dt ≤ 10; omega, by show 1 + mk ≤ 10; omega, by show sws.length ≤ 100; omega, by show lks.length ≤ 100; omega, by show hos.length ≤ 100; omega⟩ (form_cln hsw hho) (fun e => ?_) hD
        simp only [formP, P.tup.injEq, List.cons.injEq, np_eq] at e
        omega
      · walk_at "w"
        refine q ⟨dt, 0, sws, lks, hos⟩ x ⟨by show dt ≤ 10; omega, by show 0 ≤ 10; omega, by show sws.length ≤ 100; omega, by show lks.length ≤ 100; omega, by show hos.length ≤ 100; omega⟩ (form_cln hsw hho) (fun e => ?_) hD
        simp only [formP, P.tup.injEq, List.cons.injEq, np_eq] at e
        omega
    walk_at "w"
    refine cnd_by (fun h0 => ?_) (fun h0 => ?_)
    · cases sws with
      | nil => exact absurd s1 (by decide)
      | cons s r =>
        rw [List.length_cons] at s2
        unfold swP
        walk_at "w"
        refine cnd_by (fun h3 => ?_) (fun h3 => ?_)
        · walk_at "w"
          refine ⟨sz_le (by rw [List.length_map]; omega), ?_⟩
          refine q ⟨dt, mk, ⟨s.name, s.room + 1, s.sees, s.hands, s.falls, s.blind⟩ :: r, lks, hos⟩ x ⟨by show dt ≤ 10; omega, by show mk ≤ 10; omega, by show r.length + 1 ≤ 100; omega, by show lks.length ≤ 100; omega, by show hos.length ≤ 100; omega⟩ (form_cln (fun z hz => by
          rcases List.mem_cons.mp hz with rfl | hz
          · exact hsw s (List.mem_cons_self ..)
          · exact hsw z (List.mem_cons_of_mem _ hz)) hho) (fun e => ?_) hD
          simp only [formP, P.tup.injEq, List.cons.injEq, List.map_cons, np_eq] at e
          omega
        · walk_at "w"
          refine ⟨sz_le (by rw [List.length_map]; omega), ?_⟩
          have := (sw s (List.mem_cons_self ..)).1
          refine q ⟨dt, mk, ⟨s.name, 0, s.sees, s.hands, s.falls, s.blind⟩ :: r, lks, hos⟩ x ⟨by show dt ≤ 10; omega, by show mk ≤ 10; omega, by show r.length + 1 ≤ 100; omega, by show lks.length ≤ 100; omega, by show hos.length ≤ 100; omega⟩ (form_cln (fun z hz => by
          rcases List.mem_cons.mp hz with rfl | hz
          · exact hsw s (List.mem_cons_self ..)
          · exact hsw z (List.mem_cons_of_mem _ hz)) hho) (fun e => ?_) hD
          simp only [formP, P.tup.injEq, List.cons.injEq, List.map_cons, np_eq] at e
          omega
    walk_at "w"
    refine cnd_by (fun h0 => ?_) (fun h0 => ?_)
    · cases sws with
      | nil => exact absurd s1 (by decide)
      | cons s r =>
        rw [List.length_cons] at s2
        have hb := (sw s (List.mem_cons_self ..)).2.1
        unfold swP kindP
        walk_at "w"
        refine ⟨sz_le (by rw [List.length_map]; omega), ?_⟩
        refine q ⟨dt, mk, ⟨s.name, s.room, s.sees, s.hands, s.falls, 1 - s.blind⟩ :: r, lks, hos⟩ x ⟨by show dt ≤ 10; omega, by show mk ≤ 10; omega, by show r.length + 1 ≤ 100; omega, by show lks.length ≤ 100; omega, by show hos.length ≤ 100; omega⟩ (form_cln (fun z hz => by
          rcases List.mem_cons.mp hz with rfl | hz
          · exact hsw s (List.mem_cons_self ..)
          · exact hsw z (List.mem_cons_of_mem _ hz)) hho) (fun e => ?_) hD
        simp only [formP, kindP, P.tup.injEq, List.cons.injEq, List.map_cons, np_eq] at e
        omega
    have oth : ∀ (x : P), Dr x → Q (.o (.lst (partsP ⟨dt, mk, sws ++ [⟨Str.ofString "zz9", 0, 0, 0, 1, 0⟩], lks, hos⟩))) [x] := fun x hD => by
      refine q ⟨dt, mk, sws ++ [⟨Str.ofString "zz9", 0, 0, 0, 1, 0⟩], lks, hos⟩ x ⟨by show dt ≤ 10; omega, by show mk ≤ 10; omega, by show (sws ++ _).length ≤ 100; rw [List.length_append, List.length_singleton]; omega, by show lks.length ≤ 100; omega, by show hos.length ≤ 100; omega⟩ (form_cln (fun z hz => ?_) hho) (fun e => ?_) hD
      · rcases List.mem_append.mp hz with hz | hz
        · exact hsw z hz
        · cases List.mem_singleton.mp hz
          show cln 0 (.str (Str.ofString "zz9")) = true
          decide +kernel
      · simp only [formP, P.tup.injEq, List.cons.injEq] at e
        have := congrArg List.length e.2.2.1
        rw [List.length_map, List.length_map, List.length_append, List.length_singleton] at this
        omega
    have othE : P.lst (partsP ⟨dt, mk, sws ++ [⟨Str.ofString "zz9", 0, 0, 0, 1, 0⟩], lks, hos⟩) = .lst [np dt, np mk, .tup (sws.map swP ++ [.tup [.str (Str.ofString "zz9"), np 0, .tup [np 0, np 0, np 1, np 0]]]), .tup (lks.map lkP), .tup (hos.map hoP)] := by
      show P.lst [np dt, np mk, .tup ((sws ++ [(⟨Str.ofString "zz9", 0, 0, 0, 1, 0⟩ : SwV)]).map swP), .tup (lks.map lkP), .tup (hos.map hoP)] = _
      rw [List.map_append]
      rfl
    rw [othE] at oth
    walk_at "w"
    refine cnd_by (fun h0 => ?_) (fun h0 => ?_)
    · walk_at "w"
      cases lks with
      | nil =>
        simp only [List.map_nil, List.length_nil]
        walk_at "w"
        exact ⟨sz_le (by rw [List.length_map]; omega), oth x hD⟩
      | cons k r =>
        have hk := (le k.ends (List.mem_cons_self ..)).2.2
        rw [List.length_cons] at l1
        simp only [List.map_cons, List.length_cons]
        unfold lkP
        walk_at "w"
        refine ⟨sz_le (by rw [List.length_map]; omega), ?_⟩
        refine q ⟨dt, mk, sws, ⟨k.other, k.one, k.room⟩ :: r, hos⟩ x ⟨by show dt ≤ 10; omega, by show mk ≤ 10; omega, by show sws.length ≤ 100; omega, by show r.length + 1 ≤ 100; omega, by show hos.length ≤ 100; omega⟩ (form_cln hsw hho) (fun e => ?_) hD
        simp only [formP, NetV.ends, LkV.ends, prP, P.tup.injEq, List.cons.injEq, List.map_cons, np_eq] at e
        exact hk e.2.2.2.2.2.1.1.2.1
    walk_at "w"
    refine cnd_by (fun h0 => ?_) (fun h0 => ?_)
    · walk_at "w"
      cases hos with
      | nil =>
        simp only [List.map_nil, List.length_nil]
        walk_at "w"
        exact ⟨sz_le (by rw [List.length_map]; omega), oth x hD⟩
      | cons k r =>
        have hk := (ho k (List.mem_cons_self ..)).2.1
        rw [List.length_cons] at h1
        simp only [List.map_cons, List.length_cons]
        unfold hoP
        walk_at "w"
        refine ⟨sz_le (by rw [List.length_map]; omega), ?_⟩
        refine q ⟨dt, mk, sws, lks, ⟨k.name, k.home, k.tenant, 1 - k.relay⟩ :: r⟩ x ⟨by show dt ≤ 10; omega, by show mk ≤ 10; omega, by show sws.length ≤ 100; omega, by show lks.length ≤ 100; omega, by show r.length + 1 ≤ 100; omega⟩ (form_cln hsw (fun z hz => ?_)) (fun e => ?_) hD
        · rcases List.mem_cons.mp hz with rfl | hz
          · exact hho k (List.mem_cons_self ..)
          · exact hho z (List.mem_cons_of_mem _ hz)
        · simp only [formP, P.tup.injEq, List.cons.injEq, List.map_cons, np_eq] at e
          have := e.2.2.2.2.2.2.2.2.2.2.1.1
          omega
    · walk_at "w"
      exact ⟨sz_le (by rw [List.length_map]; omega), oth x hD⟩
end WW


set_option Elab.async false
set_option linter.all false
set_option maxRecDepth 100000
set_option maxHeartbeats 4000000
set_option autoImplicit false
namespace WW
open PySem PySem.Spec PyProof.Rows L2
local macro_rules | `(tactic| walk_at "w") => `(tactic| try simp -dsimp (disch := first | omega | (simp only [List.length_cons, List.length_nil]; omega)) only [↓fn_data, ↓fn_marks, ↓fn_width, ↓fn_switches, ↓fn_rooms, ↓fn_kinds, ↓fn_links, ↓fn_link_rooms, ↓fn_hosts, ↓fn_homes, ↓fn_tenants, ↓fn_relays, ↓fn_data_care, ↓fn_mark_care, ↓fn_near_links, ↓fn_near_hosts, mn_links_at, mn_hosts_at, mn_far, mn_host_door, mn_host_at, mn_link_lot, mn_form, ↓av_isi, ↓isi_non, ↓isi_bl, ↓isi_int, ↓isi_str, ↓isi_tup, ↓isi_lst, isiB, ↓av_fld, ↓av_fset, ↓av_mth, ↓av_callV, ↓av_mak, ↓av_var, ↓av_cst, ↓av_op, ↓av_neg, ↓av_notV, ↓av_andV, ↓av_orV, ↓av_chain, ↓av_if, ↓av_nil, ↓av_cons, ↓av_tup, ↓av_lst, ↓av_noP, ↓av_part, ↓av_slc, ↓av_bits, ↓av_tst, ↓av_tsB, ↓av_notB, ↓av_andB, ↓av_orB, ↓av_yes, ↓av_blt, ↓av_sset, ↓av_lstR, ↓av_tupR, ↓av_metR, ↓av_mut, ↓av_get, ↓av_srtK, ↓av_lc, ↓av_call, ↓av_seqI, ↓av_enum, ↓av_rng, ↓av_asg, ↓av_asgP, ↓av_set, ↓av_drop, ↓av_ret, ↓av_retN, ↓av_brk, ↓av_cnt, ↓av_pas, ↓av_sq, ↓av_ifS, ↓av_for, ↓av_forN, ↓av_forD, un_d, d_0, d_1, g_1, g_2, st_dct, ixv_dct, ↓hold1, ↓cnd_t, ↓cnd_f, cnd_pos, cnd_neg, ↓rd_slot, ↓rd_v, rds, val_p, val_b, val_o, val_io, own_o, own_io, re_o, re_io, mp_some, ↓src_v, ↓src_s, un_none, lock_none, ↓unK_none, ↓unK_some, lock_some, un_some, ↓asg_s, ↓asg_v', ↓ret_v, ↓ret_s, ↓kv_nx, ↓kv_rt, kL_nx, kL_ct, kL_bk, kL_rt, kL_ex, kS_nx, kS_ct, kS_bk, kS_rt, kS_ex, ↓kU_nx, ↓kU_ct, ↓kU_bk, ↓kU_rt, ↓kD_nx, ↓kD_ct, ↓kD_bk, kD_ex, ↓gv_some, ↓o_add, ↓o_sub, ↓o_and, ↓o_or, ↓o_xor, ↓o_shl1, ↓o_shr, ↓o_mod, ↓o_mulS, ↓o_divS, ↓o_lt, ↓o_le, ↓o_gt, ↓o_ge, ↓o_eq, ↓o_ne, ↓o_is, ↓o_isnot, nn_int, nn_non, nn_tup, nn_str, nn_lst, nn_bl, nn_obj, nn_dct, ↓sz_le', ↓sz_lt',  ↓t_bl, ↓t_np, ↓t_tup, ↓t_lst, ↓b_bl, ↓i_int, ↓i_np, ↓i_np2, ↓c_int1, ↓c_len1, ↓c_len2, ↓c_tup1, ↓c_tup2, ↓c_lst1, ↓c_lst2, ↓c_lst3, ↓c_str1, ↓c_strI, cut_to, cut_from, List.take_succ_cons, List.take_zero, List.drop_succ_cons, List.drop_zero, List.take_nil, List.drop_nil, ↓sl_tup, ↓sl_lst, ↓sl_fro, ↓a_lst, ↓a_tup, ↓a_str, ↓m_app', is_lst, is_tup, is_tupL, ba_tup, ba_lst, it_tup, it_lst, ↓ix_tup, ↓ix_lst, st_lst, lk, pt, take1, takeL, tks, ioSl, ioOk, ioOk1, clash, cvt, putIO, outs, bor, bindVP, bindVL, pasAll, pasB, wipeV, restV, Option.map_some, Option.map_none, List.all_cons, List.all_nil, Bool.and_true, Bool.true_and, Bool.not_true, Bool.not_false, Bool.false_and, Bool.and_false, true_and, and_true, reduceIte, decide_true, decide_false, List.map_cons, List.map_nil, List.length_cons, List.length_nil, List.cons_append, List.nil_append, List.append_nil, List.replicate, List.getElem?_cons_zero, List.getElem?_cons_succ, List.set_cons_zero, List.set_cons_succ, Nat.reduceBEq, Nat.reduceSub, Nat.reduceAdd, Nat.reduceMul, Bool.not_not])
local macro_rules | `(tactic| walk_at "wh") => `(tactic| try simp -dsimp (disch := first | omega | (simp only [List.length_cons, List.length_nil]; omega)) only [↓fn_data, ↓fn_marks, ↓fn_width, ↓fn_switches, ↓fn_rooms, ↓fn_kinds, ↓fn_links, ↓fn_link_rooms, ↓fn_hosts, ↓fn_homes, ↓fn_tenants, ↓fn_relays, ↓fn_data_care, ↓fn_mark_care, ↓fn_near_links, ↓fn_near_hosts, mn_links_at, mn_hosts_at, mn_far, mn_host_door, mn_host_at, mn_link_lot, mn_form, ↓av_isi, ↓isi_non, ↓isi_bl, ↓isi_int, ↓isi_str, ↓isi_tup, ↓isi_lst, isiB, ↓av_fld, ↓av_fset, ↓av_mth, ↓av_callV, ↓av_mak, ↓av_var, ↓av_cst, ↓av_op, ↓av_neg, ↓av_notV, ↓av_andV, ↓av_orV, ↓av_chain, ↓av_if, ↓av_nil, ↓av_cons, ↓av_tup, ↓av_lst, ↓av_noP, ↓av_part, ↓av_slc, ↓av_bits, ↓av_tst, ↓av_tsB, ↓av_notB, ↓av_andB, ↓av_orB, ↓av_yes, ↓av_blt, ↓av_sset, ↓av_lstR, ↓av_tupR, ↓av_metR, ↓av_mut, ↓av_get, ↓av_srtK, ↓av_lc, ↓av_call, ↓av_seqI, ↓av_enum, ↓av_rng, ↓av_asg, ↓av_asgP, ↓av_set, ↓av_drop, ↓av_ret, ↓av_retN, ↓av_brk, ↓av_cnt, ↓av_pas, ↓av_sq, ↓av_ifS, ↓av_for, ↓av_forN, ↓av_forD, un_d, d_0, d_1, g_1, g_2, st_dct, ixv_dct, ↓hold1, ↓cnd_t, ↓cnd_f, cnd_pos, cnd_neg, ↓rd_slot, ↓rd_v, rds, val_p, val_b, val_o, val_io, own_o, own_io, re_o, re_io, mp_some, ↓src_v, ↓src_s, un_none, lock_none, ↓unK_none, ↓unK_some, lock_some, un_some, ↓asg_s, ↓asg_v', ↓ret_v, ↓ret_s, ↓kv_nx, ↓kv_rt, kL_nx, kL_ct, kL_bk, kL_rt, kL_ex, kS_nx, kS_ct, kS_bk, kS_rt, kS_ex, ↓kU_nx, ↓kU_ct, ↓kU_bk, ↓kU_rt, ↓kD_nx, ↓kD_ct, ↓kD_bk, kD_ex, ↓gv_some, ↓o_add, ↓o_sub, ↓o_and, ↓o_or, ↓o_xor, ↓o_shl1, ↓o_shr, ↓o_mod, ↓o_mulS, ↓o_divS, ↓o_lt, ↓o_le, ↓o_gt, ↓o_ge, ↓o_eq, ↓o_ne, ↓o_is, ↓o_isnot, nn_int, nn_non, nn_tup, nn_str, nn_lst, nn_bl, nn_obj, nn_dct, ↓sz_le', ↓sz_lt',  ↓t_bl, ↓t_np, ↓t_tup, ↓t_lst, ↓b_bl, ↓i_int, ↓i_np, ↓i_np2, ↓c_int1, ↓c_len1, ↓c_len2, ↓c_tup1, ↓c_tup2, ↓c_lst1, ↓c_lst2, ↓c_lst3, ↓c_str1, ↓c_strI, cut_to, cut_from, List.take_succ_cons, List.take_zero, List.drop_succ_cons, List.drop_zero, List.take_nil, List.drop_nil, ↓sl_tup, ↓sl_lst, ↓sl_fro, ↓a_lst, ↓a_tup, ↓a_str, ↓m_app', is_lst, is_tup, is_tupL, ba_tup, ba_lst, it_tup, it_lst, ↓ix_tup, ↓ix_lst, st_lst, lk, pt, take1, takeL, tks, ioSl, ioOk, ioOk1, clash, cvt, putIO, outs, bor, bindVP, bindVL, pasAll, pasB, wipeV, restV, Option.map_some, Option.map_none, List.all_cons, List.all_nil, Bool.and_true, Bool.true_and, Bool.not_true, Bool.not_false, Bool.false_and, Bool.and_false, true_and, and_true, reduceIte, decide_true, decide_false, List.map_cons, List.map_nil, List.length_cons, List.length_nil, List.cons_append, List.nil_append, List.append_nil, List.replicate, List.getElem?_cons_zero, List.getElem?_cons_succ, List.set_cons_zero, List.set_cons_succ, Nat.reduceBEq, Nat.reduceSub, Nat.reduceAdd, Nat.reduceMul, Bool.not_not, *])
theorem lk_at {n : NetV} {k : Nat} (hk : k < n.lks.length) : (n.lks.map lkP)[k]? = some (lkP (n.lks.getD k default)) := by
  rw [List.getElem?_map, List.getD_eq_getElem?_getD, List.getElem?_eq_getElem hk]
  rfl
theorem ho_at {n : NetV} {k : Nat} (hk : k < n.hos.length) : (n.hos.map hoP)[k]? = some (hoP (n.hos.getD k default)) := by
  rw [List.getElem?_map, List.getD_eq_getElem?_getD, List.getElem?_eq_getElem hk]
  rfl
theorem ends_getD {n : NetV} {k : Nat} (hk : k < n.lks.length) : n.ends.getD k (0, 0) = (n.lks.getD k default).ends := by
  unfold NetV.ends
  rw [List.getD_eq_getElem?_getD, List.getD_eq_getElem?_getD, List.getElem?_map, List.getElem?_eq_getElem hk]
  rfl
theorem homes_getD {n : NetV} {k : Nat} (hk : k < n.hos.length) : n.homes.getD k 0 = (n.hos.getD k default).home := by
  unfold NetV.homes
  rw [List.getD_eq_getElem?_getD, List.getD_eq_getElem?_getD, List.getElem?_map, List.getElem?_eq_getElem hk]
  rfl
theorem law_holds (ns : List Int) : sp_law [.p (.fro (ns.map .int))] fun v _ => v = .p (.bl true) := by
  rw [run_law]; unfold v_law
  walk_at "w"
  refine law_begin fun x hD => ?_
  walk_at "w"
  refine law_parts hD fun n x hn hD => ?_
  have hno := parts_ok hn
  have hcf : cln 64 (formP n) = true := form_cln (fun s hs => (hn.sw s hs).2.2) fun h hh => (hn.ho h hh).2.2
  have hl12 := hn.l
  have hh8 := hn.h
  have hs8 := hn.s.2
  walk_at "w"
  refine law_made hno (.inr rfl) ?_
  walk_at "w"
  refine law_right hn (.inr rfl) (.inr rfl) ?_
  walk_at "w"
  refine law_Net_form (.inr rfl) ?_
  walk_at "w"
  refine law_made hno (.inr rfl) ?_
  walk_at "w"
  refine law_Net_form (.inl rfl) ?_
  walk_at "w"
  refine (o_selfN hcf).mpr ?_
  unfold partsP
  walk_at "w"
  simp only [List.length_map]
  walk_at "w"
  refine forVn (fun i E => ∃ a6 a7 a9 a10 a11 a12, E = [some (.p (.fro (ns.map .int))), some (.o x), some (.o (.lst (partsP n))), some (.o (netP n)), some (.p (.tup (n.lks.map lkP))), some (.p (.tup (n.hos.map hoP))), a6, a7, none, a9, a10, a11, a12, none]) ⟨_, _, _, _, _, _, rfl⟩ (fun i E N hi hI hN => ?_) (fun E hI => ?_)
  · obtain ⟨a6, a7, a9, a10, a11, a12, rfl⟩ := hI
    unfold v_law_2
    walk_at "w"
    simp only [List.length_map]
    walk_at "w"
    refine lcV (g := np) (c := fun k => decide ((n.ends.getD k (0, 0)).1 = i ∨ (n.ends.getD k (0, 0)).2 = i)) (f := np) (bd := _) (fun _ => rfl) (fun _ => rfl) (by rw [List.length_range]; omega) (fun k hk Q hQ => ?_) (fun k _ _ Q hQ => ?_) ?_
    · have hk := List.mem_range.mp hk
      walk_at "w"
      refine gv_iff.mpr ⟨_, lk_at hk, ?_⟩
      unfold lkP
      walk_at "w"
      refine in_pair.mpr ?_
      rw [ends_getD hk] at hQ
      walk_at "w"
      exact hQ
    · walk_at "w"
      exact hQ _ rfl
    have e1 : (List.range n.lks.length).filter (fun k => decide ((n.ends.getD k (0, 0)).1 = i ∨ (n.ends.getD k (0, 0)).2 = i)) = nearL n.ends i := by unfold nearL; rw [ends_len]
    simp only [e1]
    walk_at "w"
    refine law_links_at (n := n) (.inr rfl) hi ?_
    walk_at "w"
    refine (o_selfN cln_nps).mpr ?_
    walk_at "w"
    refine law_hosts_at (n := n) (.inr rfl) hi ?_
    walk_at "w"
    simp only [List.length_map]
    walk_at "w"
    refine lcV (g := np) (c := fun k => decide (n.homes.getD k 0 = i)) (f := np) (bd := _) (fun _ => rfl) (fun _ => rfl) (by rw [List.length_range]; omega) (fun k hk Q hQ => ?_) (fun k _ _ Q hQ => ?_) ?_
    · have hk := List.mem_range.mp hk
      walk_at "w"
      refine gv_iff.mpr ⟨_, ho_at hk, ?_⟩
      unfold hoP
      rw [homes_getD hk] at hQ
      walk_at "w"
      exact hQ
    · walk_at "w"
      exact hQ _ rfl
    have e2 : (List.range n.hos.length).filter (fun k => decide (n.homes.getD k 0 = i)) = nearH n.homes i := by unfold nearH; rw [homes_len]
    simp only [e2]
    walk_at "w"
    refine (o_selfN cln_nps).mpr ?_
    walk_at "w"
    refine forV (fun _ E => ∃ a9 a10 a11 a12, E = [some (.p (.fro (ns.map .int))), some (.o x), some (.o (.lst (partsP n))), some (.o (netP n)), some (.p (.tup (n.lks.map lkP))), some (.p (.tup (n.hos.map hoP))), some (.p (np i)), some (.b (.lst ((nearL n.ends i).map np))), none, a9, a10, a11, a12, none]) ⟨_, _, _, _, rfl⟩ (fun j d l r E N e hj hI hN => ?_) (fun E hI => ?_)
    · obtain ⟨a9, a10, a11, a12, rfl⟩ := hI
      have hm : l ∈ nearL n.ends i := by rw [e]; simp
      obtain ⟨hm1, hm2⟩ := List.mem_filter.mp hm
      have hm1 := List.mem_range.mp hm1
      rw [ends_len] at hm1
      have hm2 := of_decide_eq_true hm2
      rw [ends_getD hm1] at hm2
      unfold v_law_1
      walk_at "w"
      refine gv_iff.mpr ⟨_, lk_at hm1, ?_⟩
      unfold lkP
      walk_at "w"
      refine law_far (n := n) (.inr rfl) hm1 ?_
      have hb1 : (n.lks.getD l default).one = i → farN n l i = (n.lks.getD l default).other := fun h => by unfold farN; rw [ends_getD hm1]; exact if_pos h.symm
      have hb2 : ¬ (n.lks.getD l default).one = i → farN n l i = (n.lks.getD l default).one := fun h => by unfold farN; rw [ends_getD hm1]; exact if_neg fun z => h z.symm
      walk_at "w"
      refine cnd_by (fun h => ?_) (fun h => ?_)
      · walk_at "w"
        simp only [hb1 h]
        walk_at "w"
        exact hN _ ⟨_, _, _, _, rfl⟩
      · walk_at "w"
        simp only [hb2 h]
        walk_at "w"
        exact hN _ ⟨_, _, _, _, rfl⟩
    · obtain ⟨a9, a10, a11, a12, rfl⟩ := hI
      walk_at "w"
      exact hN _ ⟨_, _, _, _, _, _, rfl⟩
  obtain ⟨a6, a7, a9, a10, a11, a12, rfl⟩ := hI
  walk_at "w"
  simp only [List.length_map]
  walk_at "w"
  refine forVn (fun i E => ∃ a9, E = [some (.p (.fro (ns.map .int))), some (.o x), some (.o (.lst (partsP n))), some (.o (netP n)), some (.p (.tup (n.lks.map lkP))), some (.p (.tup (n.hos.map hoP))), a6, a7, none, a9, a10, a11, a12, none]) ⟨_, rfl⟩ (fun i E N hi hI hN => ?_) (fun E hI => ?_)
  · obtain ⟨a9, rfl⟩ := hI
    unfold v_law_3
    walk_at "w"
    refine law_host_at (n := n) (.inr rfl) ?_
    have e : hostAt n i = none := if_pos hi
    simp only [e, optP]
    walk_at "w"
    exact hN _ ⟨_, rfl⟩
  obtain ⟨a9, rfl⟩ := hI
  walk_at "w"
  simp only [List.length_map]
  walk_at "w"
  refine forVn (fun i E => ∃ a13, E = [some (.p (.fro (ns.map .int))), some (.o x), some (.o (.lst (partsP n))), some (.o (netP n)), some (.p (.tup (n.lks.map lkP))), some (.p (.tup (n.hos.map hoP))), a6, a7, none, a9, a10, a11, a12, a13]) ⟨_, rfl⟩ (fun i E N hi hI hN => ?_) (fun E hI => ?_)
  · obtain ⟨a13, rfl⟩ := hI
    unfold v_law_4
    walk_at "w"
    refine law_host_door (n := n) (.inr rfl) ?_
    walk_at "w"
    simp only [List.length_map]
    walk_at "w"
    simp only [List.length_map]
    walk_at "w"
    refine law_host_at (n := n) (.inr rfl) ?_
    have e : hostAt n (n.lks.length + i) = some i := by
      unfold hostAt
      rw [if_neg (by omega)]
      congr 1
      omega
    simp only [e, optP]
    walk_at "w"
    exact hN _ ⟨_, rfl⟩
  obtain ⟨a13, rfl⟩ := hI
  walk_at "w"
  refine law_changed hn hD (.inr rfl) fun m x hm hmc hmn hD => ?_
  walk_at "w"
  refine law_made hm (.inl rfl) ?_
  walk_at "w"
  refine law_Net_form (n := m) (.inr rfl) ?_
  walk_at "w"
  refine law_Net_form (n := n) (.inr rfl) ?_
  walk_at "w"
  refine (o_diffN hmc hcf hmn).mpr ?_
  walk_at "w"
  refine law_Net_form (n := n) (.inr rfl) ?_
  walk_at "w"
  refine isi_tup.mpr ?_
  walk_at "w"
end WW


set_option Elab.async false
set_option linter.all false
set_option maxRecDepth 100000
set_option maxHeartbeats 4000000
set_option autoImplicit false
namespace WW
open PySem PySem.Spec PyProof.Rows L2

/-! ### what is known of the classes that a def speaks of, entry by entry -/
section
variable {P : Program} {w : World} {K : PySem.W.Frag} {mg : Str → Option Value} {base : Heap} {k : Nat} {F : List (Str × List Str)} {M : List (Str × List (Str × Nat × Spec))} {C : List (Str × Nat × Spec)} {XX : List (Str × Nat × SpecX)} {S : List (Str × (Int → Prop) × (Int → Int))}
theorem all_nil {α : Type} {p : α → Prop} : ∀ x ∈ ([] : List α), p x := fun _ h => nomatch h
theorem all_cons {α : Type} {p : α → Prop} {a : α} {l : List α} (h : p a) (g : ∀ x ∈ l, p x) : ∀ x ∈ a :: l, p x := fun x hx => by
  rcases List.mem_cons.mp hx with rfl | hx
  · exact h
  · exact g x hx
theorem look_cons {α : Type} {x y : Str} {a : α} {l : List (Str × α)} {p : α → Prop} (h : y = x → p a) (g : ∀ b, l.lookup y = some b → p b) : ∀ b, ((x, a) :: l).lookup y = some b → p b := fun b e => by
  rw [List.lookup_cons] at e
  split at e
  · rename_i q
    cases e
    exact h (eq_of_beq q)
  · exact g b e
theorem klF {f : Str} {cs : List Str} (hf : ∀ c ∈ cs, Cls K (clOf mg c) ∧ NoAttr K (clOf mg c) f) (h : KlOk P w K mg base k ⟨F, M, C, XX, S⟩) : KlOk P w K mg base k ⟨(f, cs) :: F, M, C, XX, S⟩ :=
  ⟨fun y cs' e => look_cons (p := fun cs => ∀ x ∈ cs, Cls K (clOf mg x) ∧ NoAttr K (clOf mg x) y) (fun z => z ▸ hf) (fun b e => h.F y b e) cs' e, h.M, h.C, h.X, h.S⟩
theorem klM {m : Str} {ms : List (Str × Nat × Spec)} (hm : ∀ t ∈ ms, KnownM P w K mg base k t.1 m t.2.1 t.2.2) (h : KlOk P w K mg base k ⟨F, M, C, XX, S⟩) : KlOk P w K mg base k ⟨F, (m, ms) :: M, C, XX, S⟩ :=
  ⟨h.F, fun y ms' e => look_cons (p := fun ms => ∀ t ∈ ms, KnownM P w K mg base k t.1 y t.2.1 t.2.2) (fun z => z ▸ hm) (fun b e => h.M y b e) ms' e, h.C, h.X, h.S⟩
theorem klC {x : Str} {n : Nat} {sp : Spec} (hc : KnownC P w K mg base k x n sp) (h : KlOk P w K mg base k ⟨F, M, C, XX, S⟩) : KlOk P w K mg base k ⟨F, M, (x, n, sp) :: C, XX, S⟩ :=
  ⟨h.F, h.M, fun y n' sp' e => look_cons (p := fun t => KnownC P w K mg base k y t.1 t.2) (fun z => z ▸ hc) (fun b e => h.C y b.1 b.2 e) (n', sp') e, h.X, h.S⟩
theorem klX {x : Str} {n : Nat} {sp : SpecX} (hc : KnownX P w K mg base k x n sp) (h : KlOk P w K mg base k ⟨F, M, C, XX, S⟩) : KlOk P w K mg base k ⟨F, M, C, (x, n, sp) :: XX, S⟩ :=
  ⟨h.F, h.M, h.C, fun y n' sp' e => look_cons (p := fun t => KnownX P w K mg base k y t.1 t.2) (fun z => z ▸ hc) (fun b e => h.X y b.1 b.2 e) (n', sp') e, h.S⟩
theorem klS {x : Str} {dom : Int → Prop} {key : Int → Int} (hc : KnownS P w K mg k x dom key) (h : KlOk P w K mg base k ⟨F, M, C, XX, S⟩) : KlOk P w K mg base k ⟨F, M, C, XX, (x, dom, key) :: S⟩ :=
  ⟨h.F, h.M, h.C, h.X, fun y dk e => look_cons (p := fun t => KnownS P w K mg k y t.1 t.2) (fun z => z ▸ hc) (fun b e => h.S y b e) dk e⟩
end
end WW


set_option Elab.async false
set_option linter.all false
set_option maxRecDepth 100000
set_option maxHeartbeats 4000000
set_option autoImplicit false
namespace WW
open PySem PySem.Spec PyProof.Rows L2
theorem rep_ints {K : KF} {H : Hp} {ι : List Addr} : ∀ ns : List Int, RepVs K H ι (ns.map D.int) (ns.map V.int)
  | [] => rfl
  | n :: r => ⟨_, _, rfl, rfl, rep_ints r⟩
/-- what a law's def promises, over the machine's heap -/
def spLaw (K : PySem.W.Frag) : Sp := fun vs H Q E => ∃ (a : Addr) (ns : List Int), vs = [.ref a] ∧ L2.Only H ∧ SqL K H a (ns.map V.int) ∧ ∀ H', Q (.bl true) H'
theorem law_imp {P : Program} {w : World} {K : PySem.W.Frag} {mg : Str → Option Value} {base : Heap} {CX : CXT} {k : Nat} {f : Addr} {fd : FuncData} {ps : List Str} {κ : KF} {sp : Spec} (F : FnOk P w K mg base CX k f fd ps (spOf κ 1 sp))
    (h : ∀ (ns : List Int) (S : Sto) (Q : Q1), (∀ S', Q (.bl true) S') → sp [.fro (ns.map D.int)] S Q) (e : κ.K = K := by rfl) : FnOk P w K mg base CX k f fd ps (spLaw K) := by
  subst e
  refine F.imp fun vs H Q E ⟨a, ns, ev, hO, hS, q⟩ => ?_
  subst ev
  refine ⟨[], [], [.fro (ns.map D.int)], ⟨rfl, List.Pairwise.nil, fun n a o h => by simp at h⟩, ⟨.ref a, [], rfl, ⟨a, ns.map V.int, rfl, ?_, rep_ints ns⟩, rfl⟩, rfl, fun d _ => d = .bl true, h ns _ _ fun _ => rfl, fun d S' e v H' ι' T R r => ?_⟩
  · rcases hS with (hS | ⟨o, hS⟩) | hS
    · rcases hO a with z | ⟨o, xs, z⟩
      · rw [z] at hS; cases hS
      · rw [z] at hS; cases hS
    · exact .inl ⟨o, hS⟩
    · exact .inr fun H' => .inr hS
  · subst e
    cases r
    exact q H'
end WW


set_option Elab.async false
set_option linter.all false
set_option maxRecDepth 100000
set_option maxHeartbeats 4000000
set_option autoImplicit false
namespace WW
open PySem PySem.Spec PyProof.Rows L2
def topS (i : Nat) : Stmt := PySem.Challenge.pw_wishweather_k11_nets.main.body.getD i (.Pass ⟨0, 0, 0, 0⟩)
def B0 : List Str := [Str.ofString "enumerate", Str.ofString "int", Str.ofString "isinstance", Str.ofString "len", Str.ofString "list", Str.ofString "range", Str.ofString "str", Str.ofString "tuple"]
abbrev s_Net_init : Stmt := inClass (topS 1) 0
theorem sc_Net_init : FnScope ["self", "data", "marks", "switches", "links", "hosts", "name", "room", "kind", "one", "other", "home", "tenant", "relay", "at"] ["self", "data", "marks", "switches", "links", "hosts"] (defScope s_Net_init) := ⟨rfl, rfl, rfl, by decide +kernel, rfl, by decide +kernel, by decide +kernel⟩
abbrev s_Net_links_at : Stmt := inClass (topS 1) 1
theorem sc_Net_links_at : FnScope ["self", "switch"] ["self", "switch"] (defScope s_Net_links_at) := ⟨rfl, rfl, rfl, by decide +kernel, rfl, by decide +kernel, by decide +kernel⟩
abbrev s_Net_hosts_at : Stmt := inClass (topS 1) 2
theorem sc_Net_hosts_at : FnScope ["self", "switch"] ["self", "switch"] (defScope s_Net_hosts_at) := ⟨rfl, rfl, rfl, by decide +kernel, rfl, by decide +kernel, by decide +kernel⟩
abbrev s_Net_far : Stmt := inClass (topS 1) 3
theorem sc_Net_far : FnScope ["self", "link", "switch", "one", "other"] ["self", "link", "switch"] (defScope s_Net_far) := ⟨rfl, rfl, rfl, by decide +kernel, rfl, by decide +kernel, by decide +kernel⟩
abbrev s_Net_host_door : Stmt := inClass (topS 1) 4
theorem sc_Net_host_door : FnScope ["self", "host"] ["self", "host"] (defScope s_Net_host_door) := ⟨rfl, rfl, rfl, by decide +kernel, rfl, by decide +kernel, by decide +kernel⟩
abbrev s_Net_host_at : Stmt := inClass (topS 1) 5
theorem sc_Net_host_at : FnScope ["self", "door"] ["self", "door"] (defScope s_Net_host_at) := ⟨rfl, rfl, rfl, by decide +kernel, rfl, by decide +kernel, by decide +kernel⟩
abbrev s_Net_link_lot : Stmt := inClass (topS 1) 6
theorem sc_Net_link_lot : FnScope ["self"] ["self"] (defScope s_Net_link_lot) := ⟨rfl, rfl, rfl, by decide +kernel, rfl, by decide +kernel, by decide +kernel⟩
abbrev s_Net_form : Stmt := inClass (topS 1) 7
theorem sc_Net_form : FnScope ["self"] ["self"] (defScope s_Net_form) := ⟨rfl, rfl, rfl, by decide +kernel, rfl, by decide +kernel, by decide +kernel⟩
abbrev s_links_near : Stmt := topS 2
theorem sc_links_near : FnScope ["links", "switch", "number", "ends"] ["links", "switch"] (defScope s_links_near) := ⟨rfl, rfl, rfl, by decide +kernel, rfl, by decide +kernel, by decide +kernel⟩
abbrev s_hosts_near : Stmt := topS 3
theorem sc_hosts_near : FnScope ["homes", "switch", "host", "home"] ["homes", "switch"] (defScope s_hosts_near) := ⟨rfl, rfl, rfl, by decide +kernel, rfl, by decide +kernel, by decide +kernel⟩
abbrev s_law_begin : Stmt := topS 5
theorem sc_law_begin : FnScope ["script"] ["script"] (defScope s_law_begin) := ⟨rfl, rfl, rfl, by decide +kernel, rfl, by decide +kernel, by decide +kernel⟩
abbrev s_law_draw : Stmt := topS 6
theorem sc_law_draw : FnScope ["d", "many", "cell", "number", "digit", "mixed"] ["d", "many"] (defScope s_law_draw) := ⟨rfl, rfl, rfl, by decide +kernel, rfl, by decide +kernel, by decide +kernel⟩
abbrev s_law_pick : Stmt := topS 7
theorem sc_law_pick : FnScope ["d", "row"] ["d", "row"] (defScope s_law_pick) := ⟨rfl, rfl, rfl, by decide +kernel, rfl, by decide +kernel, by decide +kernel⟩
abbrev s_law_rare : Stmt := topS 8
theorem sc_law_rare : FnScope ["d", "many"] ["d", "many"] (defScope s_law_rare) := ⟨rfl, rfl, rfl, by decide +kernel, rfl, by decide +kernel, by decide +kernel⟩
abbrev s_law_shuffled : Stmt := topS 9
theorem sc_law_shuffled : FnScope ["d", "row", "left", "found", "step"] ["d", "row"] (defScope s_law_shuffled) := ⟨rfl, rfl, rfl, by decide +kernel, rfl, by decide +kernel, by decide +kernel⟩
abbrev s_law_links : Stmt := topS 10
theorem sc_law_links : FnScope ["d", "many", "extra", "pairs", "switch", "left", "one", "other", "step", "found"] ["d", "many", "extra"] (defScope s_law_links) := ⟨rfl, rfl, rfl, by decide +kernel, rfl, by decide +kernel, by decide +kernel⟩
abbrev s_law_parts : Stmt := topS 11
theorem sc_law_parts : FnScope ["d", "data", "marks", "many", "whole", "switches", "k", "kind", "links", "pair", "hosts"] ["d"] (defScope s_law_parts) := ⟨rfl, rfl, rfl, by decide +kernel, rfl, by decide +kernel, by decide +kernel⟩
abbrev s_law_made : Stmt := topS 12
theorem sc_law_made : FnScope ["parts"] ["parts"] (defScope s_law_made) := ⟨rfl, rfl, rfl, by decide +kernel, rfl, by decide +kernel, by decide +kernel⟩
abbrev s_law_right : Stmt := topS 13
theorem sc_law_right : FnScope ["net", "parts", "data", "marks", "switches", "links", "hosts", "one"] ["net", "parts"] (defScope s_law_right) := ⟨rfl, rfl, rfl, by decide +kernel, rfl, by decide +kernel, by decide +kernel⟩
abbrev s_law_changed : Stmt := topS 14
theorem sc_law_changed : FnScope ["d", "parts", "found", "way", "name", "room", "kind", "one", "other", "home", "tenant", "relay"] ["d", "parts"] (defScope s_law_changed) := ⟨rfl, rfl, rfl, by decide +kernel, rfl, by decide +kernel, by decide +kernel⟩
abbrev s_law : Stmt := topS 15
theorem sc_law : FnScope ["script", "d", "parts", "net", "links", "hosts", "switch", "near", "k", "link", "one", "other", "room", "host"] ["script"] (defScope s_law) := ⟨rfl, rfl, rfl, by decide +kernel, rfl, by decide +kernel, by decide +kernel⟩
theorem tr_Net_init (p_links_near : Spec) (p_hosts_near : Spec) : trL (ctOf ["self", "data", "marks", "switches", "links", "hosts", "name", "room", "kind", "one", "other", "home", "tenant", "relay", "at"] s_Net_init [("links_near", 2, p_links_near), ("hosts_near", 2, p_hosts_near)] B0 ⟨[("data", ["Net"]), ("marks", ["Net"]), ("width", ["Net"]), ("switches", ["Net"]), ("rooms", ["Net"]), ("kinds", ["Net"]), ("links", ["Net"]), ("link_rooms", ["Net"]), ("hosts", ["Net"]), ("homes", ["Net"]), ("tenants", ["Net"]), ("relays", ["Net"]), ("data_care", ["Net"]), ("mark_care", ["Net"]), ("near_links", ["Net"]), ("near_hosts", ["Net"])], [], [], [], []⟩) 60 (defBody s_Net_init) = some (c_Net_init p_links_near p_hosts_near) := by kernel_rfl
theorem tr_Net_links_at : trL (ctOf ["self", "switch"] s_Net_links_at [] B0 ⟨[("near_links", ["Net"])], [], [], [], []⟩) 60 (defBody s_Net_links_at) = some (c_Net_links_at) := by kernel_rfl
theorem tr_Net_hosts_at : trL (ctOf ["self", "switch"] s_Net_hosts_at [] B0 ⟨[("near_hosts", ["Net"])], [], [], [], []⟩) 60 (defBody s_Net_hosts_at) = some (c_Net_hosts_at) := by kernel_rfl
theorem tr_Net_far : trL (ctOf ["self", "link", "switch", "one", "other"] s_Net_far [] B0 ⟨[("links", ["Net"])], [], [], [], []⟩) 60 (defBody s_Net_far) = some (c_Net_far) := by kernel_rfl
theorem tr_Net_host_door : trL (ctOf ["self", "host"] s_Net_host_door [] B0 ⟨[("links", ["Net"])], [], [], [], []⟩) 60 (defBody s_Net_host_door) = some (c_Net_host_door) := by kernel_rfl
theorem tr_Net_host_at : trL (ctOf ["self", "door"] s_Net_host_at [] B0 ⟨[("links", ["Net"])], [], [], [], []⟩) 60 (defBody s_Net_host_at) = some (c_Net_host_at) := by kernel_rfl
theorem tr_Net_link_lot : trL (ctOf ["self"] s_Net_link_lot [] B0 ⟨[("links", ["Net"])], [], [], [], []⟩) 60 (defBody s_Net_link_lot) = some (c_Net_link_lot) := by kernel_rfl
theorem tr_Net_form : trL (ctOf ["self"] s_Net_form [] B0 ⟨[("data", ["Net"]), ("marks", ["Net"]), ("switches", ["Net"]), ("rooms", ["Net"]), ("kinds", ["Net"]), ("links", ["Net"]), ("link_rooms", ["Net"]), ("hosts", ["Net"]), ("homes", ["Net"]), ("tenants", ["Net"]), ("relays", ["Net"])], [], [], [], []⟩) 60 (defBody s_Net_form) = some (c_Net_form) := by kernel_rfl
theorem tr_links_near : trL (ctOf ["links", "switch", "number", "ends"] s_links_near [] B0 kl0) 60 (defBody s_links_near) = some (c_links_near) := by kernel_rfl
theorem tr_hosts_near : trL (ctOf ["homes", "switch", "host", "home"] s_hosts_near [] B0 kl0) 60 (defBody s_hosts_near) = some (c_hosts_near) := by kernel_rfl
theorem tr_law_begin : trL (ctOf ["script"] s_law_begin [] B0 kl0) 60 (defBody s_law_begin) = some (c_law_begin) := by kernel_rfl
theorem tr_law_draw : trL (ctOf ["d", "many", "cell", "number", "digit", "mixed"] s_law_draw [] B0 kl0) 60 (defBody s_law_draw) = some (c_law_draw) := by kernel_rfl
theorem tr_law_pick (p_law_draw : Spec) : trL (ctOf ["d", "row"] s_law_pick [("_law_draw", 2, p_law_draw)] B0 kl0) 60 (defBody s_law_pick) = some (c_law_pick p_law_draw) := by kernel_rfl
theorem tr_law_rare (p_law_draw : Spec) : trL (ctOf ["d", "many"] s_law_rare [("_law_draw", 2, p_law_draw)] B0 kl0) 60 (defBody s_law_rare) = some (c_law_rare p_law_draw) := by kernel_rfl
theorem tr_law_shuffled (p_law_draw : Spec) : trL (ctOf ["d", "row", "left", "found", "step"] s_law_shuffled [("_law_draw", 2, p_law_draw)] B0 kl0) 60 (defBody s_law_shuffled) = some (c_law_shuffled p_law_draw) := by kernel_rfl
theorem tr_law_links (p_law_rare : Spec) (p_law_draw : Spec) (p_law_shuffled : Spec) : trL (ctOf ["d", "many", "extra", "pairs", "switch", "left", "one", "other", "step", "found"] s_law_links [("_law_rare", 2, p_law_rare), ("_law_draw", 2, p_law_draw), ("_law_shuffled", 2, p_law_shuffled)] B0 kl0) 60 (defBody s_law_links) = some (c_law_links p_law_rare p_law_draw p_law_shuffled) := by kernel_rfl
theorem tr_law_parts (p_law_draw : Spec) (p_law_links : Spec) (p_law_pick : Spec) : trL (ctOf ["d", "data", "marks", "many", "whole", "switches", "k", "kind", "links", "pair", "hosts"] s_law_parts [("_law_draw", 2, p_law_draw), ("_law_links", 3, p_law_links), ("_law_pick", 2, p_law_pick)] B0 kl0) 60 (defBody s_law_parts) = some (c_law_parts p_law_draw p_law_links p_law_pick) := by kernel_rfl
theorem tr_law_made (p_Net_init : Spec) : trL (ctOf ["parts"] s_law_made [] B0 ⟨[], [], [("Net", 5, p_Net_init)], [], []⟩) 60 (defBody s_law_made) = some (c_law_made p_Net_init) := by kernel_rfl
theorem tr_law_right (p_Net_link_lot : Spec) : trL (ctOf ["net", "parts", "data", "marks", "switches", "links", "hosts", "one"] s_law_right [] B0 ⟨[("data", ["Net"]), ("marks", ["Net"]), ("width", ["Net"]), ("switches", ["Net"]), ("rooms", ["Net"]), ("kinds", ["Net"]), ("links", ["Net"]), ("link_rooms", ["Net"]), ("hosts", ["Net"]), ("homes", ["Net"]), ("tenants", ["Net"]), ("relays", ["Net"]), ("data_care", ["Net"]), ("mark_care", ["Net"])], [("link_lot", [("Net", 0, p_Net_link_lot)])], [], [], []⟩) 60 (defBody s_law_right) = some (c_law_right p_Net_link_lot) := by kernel_rfl
theorem tr_law_changed (p_law_draw : Spec) : trL (ctOf ["d", "parts", "found", "way", "name", "room", "kind", "one", "other", "home", "tenant", "relay"] s_law_changed [("_law_draw", 2, p_law_draw)] B0 kl0) 60 (defBody s_law_changed) = some (c_law_changed p_law_draw) := by kernel_rfl
theorem tr_law (p_law_begin : Spec) (p_law_parts : Spec) (p_law_made : Spec) (p_Net_form : Spec) (p_law_right : Spec) (p_Net_links_at : Spec) (p_Net_hosts_at : Spec) (p_Net_far : Spec) (p_Net_host_at : Spec) (p_Net_host_door : Spec) (p_law_changed : Spec) : trL (ctOf ["script", "d", "parts", "net", "links", "hosts", "switch", "near", "k", "link", "one", "other", "room", "host"] s_law [("_law_begin", 1, p_law_begin), ("_law_parts", 1, p_law_parts), ("_law_made", 1, p_law_made), ("_law_right", 2, p_law_right), ("_law_changed", 2, p_law_changed)] B0 ⟨[], [("form", [("Net", 0, p_Net_form)]), ("links_at", [("Net", 1, p_Net_links_at)]), ("hosts_at", [("Net", 1, p_Net_hosts_at)]), ("host_at", [("Net", 1, p_Net_host_at)]), ("far", [("Net", 2, p_Net_far)]), ("host_door", [("Net", 1, p_Net_host_door)])], [], [], []⟩) 60 (defBody s_law) = some (c_law p_law_begin p_law_parts p_law_made p_Net_form p_law_right p_Net_links_at p_Net_hosts_at p_Net_far p_Net_host_at p_Net_host_door p_law_changed) := by kernel_rfl
theorem all_mk {l : PySem.W.OpenLaw} {w : World} {K : PySem.W.Frag} {h : Heap} {mg : Str → Option Value} {fa : Addr} (X : K.In h) (G : h.Ns mainGlobals mg) (hfa : mg "law" = some (.ref fa))
    {C0 : Addr}
    {f0 : Addr} {od0 an0 : Option Addr} {sl0 : Array (Option Value)} {oc0 kV0 dc0 pm0 cd0 ct0 : Value}
    {f1 : Addr} {od1 an1 : Option Addr} {sl1 : Array (Option Value)} {oc1 kV1 dc1 pm1 cd1 ct1 : Value}
    {f2 : Addr} {od2 an2 : Option Addr} {sl2 : Array (Option Value)} {oc2 kV2 dc2 pm2 cd2 ct2 : Value}
    {f3 : Addr} {od3 an3 : Option Addr} {sl3 : Array (Option Value)} {oc3 kV3 dc3 pm3 cd3 ct3 : Value}
    {f4 : Addr} {od4 an4 : Option Addr} {sl4 : Array (Option Value)} {oc4 kV4 dc4 pm4 cd4 ct4 : Value}
    {f5 : Addr} {od5 an5 : Option Addr} {sl5 : Array (Option Value)} {oc5 kV5 dc5 pm5 cd5 ct5 : Value}
    {f6 : Addr} {od6 an6 : Option Addr} {sl6 : Array (Option Value)} {oc6 kV6 dc6 pm6 cd6 ct6 : Value}
    {f7 : Addr} {od7 an7 : Option Addr} {sl7 : Array (Option Value)} {oc7 kV7 dc7 pm7 cd7 ct7 : Value}
    {f8 : Addr} {od8 an8 : Option Addr} {sl8 : Array (Option Value)} {oc8 kV8 dc8 pm8 cd8 ct8 : Value}
    {f9 : Addr} {od9 an9 : Option Addr} {sl9 : Array (Option Value)} {oc9 kV9 dc9 pm9 cd9 ct9 : Value}
    {f10 : Addr} {od10 an10 : Option Addr} {sl10 : Array (Option Value)} {oc10 kV10 dc10 pm10 cd10 ct10 : Value}
    {f11 : Addr} {od11 an11 : Option Addr} {sl11 : Array (Option Value)} {oc11 kV11 dc11 pm11 cd11 ct11 : Value}
    {f12 : Addr} {od12 an12 : Option Addr} {sl12 : Array (Option Value)} {oc12 kV12 dc12 pm12 cd12 ct12 : Value}
    {f13 : Addr} {od13 an13 : Option Addr} {sl13 : Array (Option Value)} {oc13 kV13 dc13 pm13 cd13 ct13 : Value}
    {f14 : Addr} {od14 an14 : Option Addr} {sl14 : Array (Option Value)} {oc14 kV14 dc14 pm14 cd14 ct14 : Value}
    {f15 : Addr} {od15 an15 : Option Addr} {sl15 : Array (Option Value)} {oc15 kV15 dc15 pm15 cd15 ct15 : Value}
    {f16 : Addr} {od16 an16 : Option Addr} {sl16 : Array (Option Value)} {oc16 kV16 dc16 pm16 cd16 ct16 : Value}
    {f17 : Addr} {od17 an17 : Option Addr} {sl17 : Array (Option Value)} {oc17 kV17 dc17 pm17 cd17 ct17 : Value}
    {f18 : Addr} {od18 an18 : Option Addr} {sl18 : Array (Option Value)} {oc18 kV18 dc18 pm18 cd18 ct18 : Value}
    {f19 : Addr} {od19 an19 : Option Addr} {sl19 : Array (Option Value)} {oc19 kV19 dc19 pm19 cd19 ct19 : Value}
    {f20 : Addr} {od20 an20 : Option Addr} {sl20 : Array (Option Value)} {oc20 kV20 dc20 pm20 cd20 ct20 : Value}
    (ac0 : PySem.W.nsIn K mainGlobals "Net" = some (some (.ref C0)))
    (pg0 : PySem.W.plainGet K C0 Str.empty = true)
    (hd0 : PySem.W.hasDictIn K C0 = true)
    (po0 : PySem.W.plainOver K C0 = true)
    (sa0 : PySem.W.findIn K (.ref C0) "__setattr__" = some (some (.builtin "object.__setattr__")))
    (mk0 : PySem.W.makesIn K C0 = true)
    (kc0 : PySem.W.keepIn K (.ref C0) = true)
    (nf0 : PySem.W.findIn K (.ref C0) "data" = some none)
    (nf1 : PySem.W.findIn K (.ref C0) "marks" = some none)
    (nf2 : PySem.W.findIn K (.ref C0) "width" = some none)
    (nf3 : PySem.W.findIn K (.ref C0) "switches" = some none)
    (nf4 : PySem.W.findIn K (.ref C0) "rooms" = some none)
    (nf5 : PySem.W.findIn K (.ref C0) "kinds" = some none)
    (nf6 : PySem.W.findIn K (.ref C0) "links" = some none)
    (nf7 : PySem.W.findIn K (.ref C0) "link_rooms" = some none)
    (nf8 : PySem.W.findIn K (.ref C0) "hosts" = some none)
    (nf9 : PySem.W.findIn K (.ref C0) "homes" = some none)
    (nf10 : PySem.W.findIn K (.ref C0) "tenants" = some none)
    (nf11 : PySem.W.findIn K (.ref C0) "relays" = some none)
    (nf12 : PySem.W.findIn K (.ref C0) "data_care" = some none)
    (nf13 : PySem.W.findIn K (.ref C0) "mark_care" = some none)
    (nf14 : PySem.W.findIn K (.ref C0) "near_links" = some none)
    (nf15 : PySem.W.findIn K (.ref C0) "near_hosts" = some none)
    (a0 : PySem.W.findIn K (.ref C0) "__init__" = some (some (.ref f0)))
    (i0 : PySem.W.isFn K (.ref f0) = true)
    (l0 : K.lookup f0 = some ⟨oc0, od0, .func (PySem.W.fnOf "__init__" "Net.__init__" (defArgs s_Net_init) (defBody s_Net_init) (defScope s_Net_init) .none kV0 dc0 pm0 an0 cd0 ct0), sl0⟩)
    (c0 : PySem.W.codeIn K cd0 "Net.__init__" = true)
    (k0 : PySem.W.keepIn K (.ref f0) = true)
    (a1 : PySem.W.findIn K (.ref C0) "links_at" = some (some (.ref f1)))
    (i1 : PySem.W.isFn K (.ref f1) = true)
    (l1 : K.lookup f1 = some ⟨oc1, od1, .func (PySem.W.fnOf "links_at" "Net.links_at" (defArgs s_Net_links_at) (defBody s_Net_links_at) (defScope s_Net_links_at) .none kV1 dc1 pm1 an1 cd1 ct1), sl1⟩)
    (c1 : PySem.W.codeIn K cd1 "Net.links_at" = true)
    (k1 : PySem.W.keepIn K (.ref f1) = true)
    (a2 : PySem.W.findIn K (.ref C0) "hosts_at" = some (some (.ref f2)))
    (i2 : PySem.W.isFn K (.ref f2) = true)
    (l2 : K.lookup f2 = some ⟨oc2, od2, .func (PySem.W.fnOf "hosts_at" "Net.hosts_at" (defArgs s_Net_hosts_at) (defBody s_Net_hosts_at) (defScope s_Net_hosts_at) .none kV2 dc2 pm2 an2 cd2 ct2), sl2⟩)
    (c2 : PySem.W.codeIn K cd2 "Net.hosts_at" = true)
    (k2 : PySem.W.keepIn K (.ref f2) = true)
    (a3 : PySem.W.findIn K (.ref C0) "far" = some (some (.ref f3)))
    (i3 : PySem.W.isFn K (.ref f3) = true)
    (l3 : K.lookup f3 = some ⟨oc3, od3, .func (PySem.W.fnOf "far" "Net.far" (defArgs s_Net_far) (defBody s_Net_far) (defScope s_Net_far) .none kV3 dc3 pm3 an3 cd3 ct3), sl3⟩)
    (c3 : PySem.W.codeIn K cd3 "Net.far" = true)
    (k3 : PySem.W.keepIn K (.ref f3) = true)
    (a4 : PySem.W.findIn K (.ref C0) "host_door" = some (some (.ref f4)))
    (i4 : PySem.W.isFn K (.ref f4) = true)
    (l4 : K.lookup f4 = some ⟨oc4, od4, .func (PySem.W.fnOf "host_door" "Net.host_door" (defArgs s_Net_host_door) (defBody s_Net_host_door) (defScope s_Net_host_door) .none kV4 dc4 pm4 an4 cd4 ct4), sl4⟩)
    (c4 : PySem.W.codeIn K cd4 "Net.host_door" = true)
    (k4 : PySem.W.keepIn K (.ref f4) = true)
    (a5 : PySem.W.findIn K (.ref C0) "host_at" = some (some (.ref f5)))
    (i5 : PySem.W.isFn K (.ref f5) = true)
    (l5 : K.lookup f5 = some ⟨oc5, od5, .func (PySem.W.fnOf "host_at" "Net.host_at" (defArgs s_Net_host_at) (defBody s_Net_host_at) (defScope s_Net_host_at) .none kV5 dc5 pm5 an5 cd5 ct5), sl5⟩)
    (c5 : PySem.W.codeIn K cd5 "Net.host_at" = true)
    (k5 : PySem.W.keepIn K (.ref f5) = true)
    (a6 : PySem.W.findIn K (.ref C0) "link_lot" = some (some (.ref f6)))
    (i6 : PySem.W.isFn K (.ref f6) = true)
    (l6 : K.lookup f6 = some ⟨oc6, od6, .func (PySem.W.fnOf "link_lot" "Net.link_lot" (defArgs s_Net_link_lot) (defBody s_Net_link_lot) (defScope s_Net_link_lot) .none kV6 dc6 pm6 an6 cd6 ct6), sl6⟩)
    (c6 : PySem.W.codeIn K cd6 "Net.link_lot" = true)
    (k6 : PySem.W.keepIn K (.ref f6) = true)
    (a7 : PySem.W.findIn K (.ref C0) "form" = some (some (.ref f7)))
    (i7 : PySem.W.isFn K (.ref f7) = true)
    (l7 : K.lookup f7 = some ⟨oc7, od7, .func (PySem.W.fnOf "form" "Net.form" (defArgs s_Net_form) (defBody s_Net_form) (defScope s_Net_form) .none kV7 dc7 pm7 an7 cd7 ct7), sl7⟩)
    (c7 : PySem.W.codeIn K cd7 "Net.form" = true)
    (k7 : PySem.W.keepIn K (.ref f7) = true)
    (a8 : PySem.W.nsIn K mainGlobals "links_near" = some (some (.ref f8)))
    (l8 : K.lookup f8 = some ⟨oc8, od8, .func (PySem.W.fnOf "links_near" "links_near" (defArgs s_links_near) (defBody s_links_near) (defScope s_links_near) .none kV8 dc8 pm8 an8 cd8 ct8), sl8⟩)
    (c8 : PySem.W.codeIn K cd8 "links_near" = true)
    (k8 : PySem.W.keepIn K (.ref f8) = true)
    (a9 : PySem.W.nsIn K mainGlobals "hosts_near" = some (some (.ref f9)))
    (l9 : K.lookup f9 = some ⟨oc9, od9, .func (PySem.W.fnOf "hosts_near" "hosts_near" (defArgs s_hosts_near) (defBody s_hosts_near) (defScope s_hosts_near) .none kV9 dc9 pm9 an9 cd9 ct9), sl9⟩)
    (c9 : PySem.W.codeIn K cd9 "hosts_near" = true)
    (k9 : PySem.W.keepIn K (.ref f9) = true)
    (a10 : PySem.W.nsIn K mainGlobals "_law_begin" = some (some (.ref f10)))
    (l10 : K.lookup f10 = some ⟨oc10, od10, .func (PySem.W.fnOf "_law_begin" "_law_begin" (defArgs s_law_begin) (defBody s_law_begin) (defScope s_law_begin) .none kV10 dc10 pm10 an10 cd10 ct10), sl10⟩)
    (c10 : PySem.W.codeIn K cd10 "_law_begin" = true)
    (k10 : PySem.W.keepIn K (.ref f10) = true)
    (a11 : PySem.W.nsIn K mainGlobals "_law_draw" = some (some (.ref f11)))
    (l11 : K.lookup f11 = some ⟨oc11, od11, .func (PySem.W.fnOf "_law_draw" "_law_draw" (defArgs s_law_draw) (defBody s_law_draw) (defScope s_law_draw) .none kV11 dc11 pm11 an11 cd11 ct11), sl11⟩)
    (c11 : PySem.W.codeIn K cd11 "_law_draw" = true)
    (k11 : PySem.W.keepIn K (.ref f11) = true)
    (a12 : PySem.W.nsIn K mainGlobals "_law_pick" = some (some (.ref f12)))
    (l12 : K.lookup f12 = some ⟨oc12, od12, .func (PySem.W.fnOf "_law_pick" "_law_pick" (defArgs s_law_pick) (defBody s_law_pick) (defScope s_law_pick) .none kV12 dc12 pm12 an12 cd12 ct12), sl12⟩)
    (c12 : PySem.W.codeIn K cd12 "_law_pick" = true)
    (k12 : PySem.W.keepIn K (.ref f12) = true)
    (a13 : PySem.W.nsIn K mainGlobals "_law_rare" = some (some (.ref f13)))
    (l13 : K.lookup f13 = some ⟨oc13, od13, .func (PySem.W.fnOf "_law_rare" "_law_rare" (defArgs s_law_rare) (defBody s_law_rare) (defScope s_law_rare) .none kV13 dc13 pm13 an13 cd13 ct13), sl13⟩)
    (c13 : PySem.W.codeIn K cd13 "_law_rare" = true)
    (k13 : PySem.W.keepIn K (.ref f13) = true)
    (a14 : PySem.W.nsIn K mainGlobals "_law_shuffled" = some (some (.ref f14)))
    (l14 : K.lookup f14 = some ⟨oc14, od14, .func (PySem.W.fnOf "_law_shuffled" "_law_shuffled" (defArgs s_law_shuffled) (defBody s_law_shuffled) (defScope s_law_shuffled) .none kV14 dc14 pm14 an14 cd14 ct14), sl14⟩)
    (c14 : PySem.W.codeIn K cd14 "_law_shuffled" = true)
    (k14 : PySem.W.keepIn K (.ref f14) = true)
    (a15 : PySem.W.nsIn K mainGlobals "_law_links" = some (some (.ref f15)))
    (l15 : K.lookup f15 = some ⟨oc15, od15, .func (PySem.W.fnOf "_law_links" "_law_links" (defArgs s_law_links) (defBody s_law_links) (defScope s_law_links) .none kV15 dc15 pm15 an15 cd15 ct15), sl15⟩)
    (c15 : PySem.W.codeIn K cd15 "_law_links" = true)
    (k15 : PySem.W.keepIn K (.ref f15) = true)
    (a16 : PySem.W.nsIn K mainGlobals "_law_parts" = some (some (.ref f16)))
    (l16 : K.lookup f16 = some ⟨oc16, od16, .func (PySem.W.fnOf "_law_parts" "_law_parts" (defArgs s_law_parts) (defBody s_law_parts) (defScope s_law_parts) .none kV16 dc16 pm16 an16 cd16 ct16), sl16⟩)
    (c16 : PySem.W.codeIn K cd16 "_law_parts" = true)
    (k16 : PySem.W.keepIn K (.ref f16) = true)
    (a17 : PySem.W.nsIn K mainGlobals "_law_made" = some (some (.ref f17)))
    (l17 : K.lookup f17 = some ⟨oc17, od17, .func (PySem.W.fnOf "_law_made" "_law_made" (defArgs s_law_made) (defBody s_law_made) (defScope s_law_made) .none kV17 dc17 pm17 an17 cd17 ct17), sl17⟩)
    (c17 : PySem.W.codeIn K cd17 "_law_made" = true)
    (k17 : PySem.W.keepIn K (.ref f17) = true)
    (a18 : PySem.W.nsIn K mainGlobals "_law_right" = some (some (.ref f18)))
    (l18 : K.lookup f18 = some ⟨oc18, od18, .func (PySem.W.fnOf "_law_right" "_law_right" (defArgs s_law_right) (defBody s_law_right) (defScope s_law_right) .none kV18 dc18 pm18 an18 cd18 ct18), sl18⟩)
    (c18 : PySem.W.codeIn K cd18 "_law_right" = true)
    (k18 : PySem.W.keepIn K (.ref f18) = true)
    (a19 : PySem.W.nsIn K mainGlobals "_law_changed" = some (some (.ref f19)))
    (l19 : K.lookup f19 = some ⟨oc19, od19, .func (PySem.W.fnOf "_law_changed" "_law_changed" (defArgs s_law_changed) (defBody s_law_changed) (defScope s_law_changed) .none kV19 dc19 pm19 an19 cd19 ct19), sl19⟩)
    (c19 : PySem.W.codeIn K cd19 "_law_changed" = true)
    (k19 : PySem.W.keepIn K (.ref f19) = true)
    (a20 : PySem.W.nsIn K mainGlobals "law" = some (some (.ref f20)))
    (l20 : K.lookup f20 = some ⟨oc20, od20, .func (PySem.W.fnOf "law" "law" (defArgs s_law) (defBody s_law) (defScope s_law) .none kV20 dc20 pm20 an20 cd20 ct20), sl20⟩)
    (c20 : PySem.W.codeIn K cd20 "law" = true)
    (k20 : PySem.W.keepIn K (.ref f20) = true)
    (z0 : PySem.W.nsIn K mainGlobals "enumerate" = some none)
    (z1 : PySem.W.nsIn K mainGlobals "int" = some none)
    (z2 : PySem.W.nsIn K mainGlobals "isinstance" = some none)
    (z3 : PySem.W.nsIn K mainGlobals "len" = some none)
    (z4 : PySem.W.nsIn K mainGlobals "list" = some none)
    (z5 : PySem.W.nsIn K mainGlobals "range" = some none)
    (z6 : PySem.W.nsIn K mainGlobals "str" = some none)
    (z7 : PySem.W.nsIn K mainGlobals "tuple" = some none) :
    ∃ fd : FuncData, (∀ (s : Shared) (v : Value), BindsTo s fd ⟨[v], []⟩ [("script", v)]) ∧ ∀ base : Heap, K.In base → base.Ns mainGlobals mg → FnOk l.prog w K mg base CX0 5 fa fd ["script"] (spLaw K) := by
  have e := hfa.symm.trans (PySem.W.mg_of X G a20)
  cases e
  have cC0 : clOf mg "Net" = C0 := by unfold clOf; rw [PySem.W.mg_of X G ac0]
  have KC0 : Cls K (clOf mg "Net") := by rw [cC0]; exact ⟨pg0, hd0, po0, sa0⟩
  have NF0 : Cls K (clOf mg "Net") ∧ NoAttr K (clOf mg "Net") "data" := ⟨KC0, by rw [cC0]; exact nf0⟩
  have NF1 : Cls K (clOf mg "Net") ∧ NoAttr K (clOf mg "Net") "marks" := ⟨KC0, by rw [cC0]; exact nf1⟩
  have NF2 : Cls K (clOf mg "Net") ∧ NoAttr K (clOf mg "Net") "width" := ⟨KC0, by rw [cC0]; exact nf2⟩
  have NF3 : Cls K (clOf mg "Net") ∧ NoAttr K (clOf mg "Net") "switches" := ⟨KC0, by rw [cC0]; exact nf3⟩
  have NF4 : Cls K (clOf mg "Net") ∧ NoAttr K (clOf mg "Net") "rooms" := ⟨KC0, by rw [cC0]; exact nf4⟩
  have NF5 : Cls K (clOf mg "Net") ∧ NoAttr K (clOf mg "Net") "kinds" := ⟨KC0, by rw [cC0]; exact nf5⟩
  have NF6 : Cls K (clOf mg "Net") ∧ NoAttr K (clOf mg "Net") "links" := ⟨KC0, by rw [cC0]; exact nf6⟩
  have NF7 : Cls K (clOf mg "Net") ∧ NoAttr K (clOf mg "Net") "link_rooms" := ⟨KC0, by rw [cC0]; exact nf7⟩
  have NF8 : Cls K (clOf mg "Net") ∧ NoAttr K (clOf mg "Net") "hosts" := ⟨KC0, by rw [cC0]; exact nf8⟩
  have NF9 : Cls K (clOf mg "Net") ∧ NoAttr K (clOf mg "Net") "homes" := ⟨KC0, by rw [cC0]; exact nf9⟩
  have NF10 : Cls K (clOf mg "Net") ∧ NoAttr K (clOf mg "Net") "tenants" := ⟨KC0, by rw [cC0]; exact nf10⟩
  have NF11 : Cls K (clOf mg "Net") ∧ NoAttr K (clOf mg "Net") "relays" := ⟨KC0, by rw [cC0]; exact nf11⟩
  have NF12 : Cls K (clOf mg "Net") ∧ NoAttr K (clOf mg "Net") "data_care" := ⟨KC0, by rw [cC0]; exact nf12⟩
  have NF13 : Cls K (clOf mg "Net") ∧ NoAttr K (clOf mg "Net") "mark_care" := ⟨KC0, by rw [cC0]; exact nf13⟩
  have NF14 : Cls K (clOf mg "Net") ∧ NoAttr K (clOf mg "Net") "near_links" := ⟨KC0, by rw [cC0]; exact nf14⟩
  have NF15 : Cls K (clOf mg "Net") ∧ NoAttr K (clOf mg "Net") "near_hosts" := ⟨KC0, by rw [cC0]; exact nf15⟩
  have F0 := fun_mk (st := s_Net_init) l0 c0 k0
  have b0 := F0.binds (ps := ["self", "data", "marks", "switches", "links", "hosts"]) fun _ _ _ _ _ _ us hl => match us, hl with | [_, _, _, _, _, _], _ => rfl
  have F1 := fun_mk (st := s_Net_links_at) l1 c1 k1
  have b1 := F1.binds (ps := ["self", "switch"]) fun _ _ _ _ _ _ us hl => match us, hl with | [_, _], _ => rfl
  have F2 := fun_mk (st := s_Net_hosts_at) l2 c2 k2
  have b2 := F2.binds (ps := ["self", "switch"]) fun _ _ _ _ _ _ us hl => match us, hl with | [_, _], _ => rfl
  have F3 := fun_mk (st := s_Net_far) l3 c3 k3
  have b3 := F3.binds (ps := ["self", "link", "switch"]) fun _ _ _ _ _ _ us hl => match us, hl with | [_, _, _], _ => rfl
  have F4 := fun_mk (st := s_Net_host_door) l4 c4 k4
  have b4 := F4.binds (ps := ["self", "host"]) fun _ _ _ _ _ _ us hl => match us, hl with | [_, _], _ => rfl
  have F5 := fun_mk (st := s_Net_host_at) l5 c5 k5
  have b5 := F5.binds (ps := ["self", "door"]) fun _ _ _ _ _ _ us hl => match us, hl with | [_, _], _ => rfl
  have F6 := fun_mk (st := s_Net_link_lot) l6 c6 k6
  have b6 := F6.binds (ps := ["self"]) fun _ _ _ _ _ _ us hl => match us, hl with | [_], _ => rfl
  have F7 := fun_mk (st := s_Net_form) l7 c7 k7
  have b7 := F7.binds (ps := ["self"]) fun _ _ _ _ _ _ us hl => match us, hl with | [_], _ => rfl
  have F8 := fun_mk (st := s_links_near) l8 c8 k8
  have b8 := F8.binds (ps := ["links", "switch"]) fun _ _ _ _ _ _ us hl => match us, hl with | [_, _], _ => rfl
  have F9 := fun_mk (st := s_hosts_near) l9 c9 k9
  have b9 := F9.binds (ps := ["homes", "switch"]) fun _ _ _ _ _ _ us hl => match us, hl with | [_, _], _ => rfl
  have F10 := fun_mk (st := s_law_begin) l10 c10 k10
  have b10 := F10.binds (ps := ["script"]) fun _ _ _ _ _ _ us hl => match us, hl with | [_], _ => rfl
  have F11 := fun_mk (st := s_law_draw) l11 c11 k11
  have b11 := F11.binds (ps := ["d", "many"]) fun _ _ _ _ _ _ us hl => match us, hl with | [_, _], _ => rfl
  have F12 := fun_mk (st := s_law_pick) l12 c12 k12
  have b12 := F12.binds (ps := ["d", "row"]) fun _ _ _ _ _ _ us hl => match us, hl with | [_, _], _ => rfl
  have F13 := fun_mk (st := s_law_rare) l13 c13 k13
  have b13 := F13.binds (ps := ["d", "many"]) fun _ _ _ _ _ _ us hl => match us, hl with | [_, _], _ => rfl
  have F14 := fun_mk (st := s_law_shuffled) l14 c14 k14
  have b14 := F14.binds (ps := ["d", "row"]) fun _ _ _ _ _ _ us hl => match us, hl with | [_, _], _ => rfl
  have F15 := fun_mk (st := s_law_links) l15 c15 k15
  have b15 := F15.binds (ps := ["d", "many", "extra"]) fun _ _ _ _ _ _ us hl => match us, hl with | [_, _, _], _ => rfl
  have F16 := fun_mk (st := s_law_parts) l16 c16 k16
  have b16 := F16.binds (ps := ["d"]) fun _ _ _ _ _ _ us hl => match us, hl with | [_], _ => rfl
  have F17 := fun_mk (st := s_law_made) l17 c17 k17
  have b17 := F17.binds (ps := ["parts"]) fun _ _ _ _ _ _ us hl => match us, hl with | [_], _ => rfl
  have F18 := fun_mk (st := s_law_right) l18 c18 k18
  have b18 := F18.binds (ps := ["net", "parts"]) fun _ _ _ _ _ _ us hl => match us, hl with | [_, _], _ => rfl
  have F19 := fun_mk (st := s_law_changed) l19 c19 k19
  have b19 := F19.binds (ps := ["d", "parts"]) fun _ _ _ _ _ _ us hl => match us, hl with | [_, _], _ => rfl
  have F20 := fun_mk (st := s_law) l20 c20 k20
  have hB : ∀ y ∈ B0, mg y = none := fun y hy => by
    simp only [B0, List.mem_cons, List.not_mem_nil, or_false] at hy
    rcases hy with rfl | rfl | rfl | rfl | rfl | rfl | rfl | rfl
    · exact PySem.W.mg_none_of X G z0
    · exact PySem.W.mg_none_of X G z1
    · exact PySem.W.mg_none_of X G z2
    · exact PySem.W.mg_none_of X G z3
    · exact PySem.W.mg_none_of X G z4
    · exact PySem.W.mg_none_of X G z5
    · exact PySem.W.mg_none_of X G z6
    · exact PySem.W.mg_none_of X G z7
  refine ⟨PySem.W.fnOf "law" "law" (defArgs s_law) (defBody s_law) (defScope s_law) .none kV20 dc20 pm20 an20 cd20 ct20, fun s v => .of_eq rfl, fun base _ _ => ?_⟩
  have n1 : KnownM l.prog w K mg base 1 "Net" "links_at" 1 (up sp_Net_links_at) := knownM (k := 0) F1 sc_Net_links_at known_nil hB (klF (all_cons NF14 all_nil) klOk0) (tr_Net_links_at) good_Net_links_at rfl KC0 (by rw [cC0]; exact ⟨a1, i1, k1⟩) b1
  have n2 : KnownM l.prog w K mg base 1 "Net" "hosts_at" 1 (up sp_Net_hosts_at) := knownM (k := 0) F2 sc_Net_hosts_at known_nil hB (klF (all_cons NF15 all_nil) klOk0) (tr_Net_hosts_at) good_Net_hosts_at rfl KC0 (by rw [cC0]; exact ⟨a2, i2, k2⟩) b2
  have n3 : KnownM l.prog w K mg base 1 "Net" "far" 2 (up sp_Net_far) := knownM (k := 0) F3 sc_Net_far known_nil hB (klF (all_cons NF6 all_nil) klOk0) (tr_Net_far) good_Net_far rfl KC0 (by rw [cC0]; exact ⟨a3, i3, k3⟩) b3
  have n4 : KnownM l.prog w K mg base 1 "Net" "host_door" 1 (up sp_Net_host_door) := knownM (k := 0) F4 sc_Net_host_door known_nil hB (klF (all_cons NF6 all_nil) klOk0) (tr_Net_host_door) good_Net_host_door rfl KC0 (by rw [cC0]; exact ⟨a4, i4, k4⟩) b4
  have n5 : KnownM l.prog w K mg base 1 "Net" "host_at" 1 (up sp_Net_host_at) := knownM (k := 0) F5 sc_Net_host_at known_nil hB (klF (all_cons NF6 all_nil) klOk0) (tr_Net_host_at) good_Net_host_at rfl KC0 (by rw [cC0]; exact ⟨a5, i5, k5⟩) b5
  have n6 : KnownM l.prog w K mg base 1 "Net" "link_lot" 0 (up sp_Net_link_lot) := knownM (k := 0) F6 sc_Net_link_lot known_nil hB (klF (all_cons NF6 all_nil) klOk0) (tr_Net_link_lot) good_Net_link_lot rfl KC0 (by rw [cC0]; exact ⟨a6, i6, k6⟩) b6
  have n7 : KnownM l.prog w K mg base 1 "Net" "form" 0 (up sp_Net_form) := knownM (k := 0) F7 sc_Net_form known_nil hB (klF (all_cons NF0 all_nil) (klF (all_cons NF1 all_nil) (klF (all_cons NF3 all_nil) (klF (all_cons NF4 all_nil) (klF (all_cons NF5 all_nil) (klF (all_cons NF6 all_nil) (klF (all_cons NF7 all_nil) (klF (all_cons NF8 all_nil) (klF (all_cons NF9 all_nil) (klF (all_cons NF10 all_nil) (klF (all_cons NF11 all_nil) klOk0))))))))))) (tr_Net_form) good_Net_form rfl KC0 (by rw [cC0]; exact ⟨a7, i7, k7⟩) b7
  have n8 : Known l.prog w K mg base 1 "links_near" 2 (up sp_links_near) := known (k := 0) F8 sc_links_near known_nil hB klOk0 (tr_links_near) good_links_near (PySem.W.mg_of X G a8) b8
  have n9 : Known l.prog w K mg base 1 "hosts_near" 2 (up sp_hosts_near) := known (k := 0) F9 sc_hosts_near known_nil hB klOk0 (tr_hosts_near) good_hosts_near (PySem.W.mg_of X G a9) b9
  have n10 : Known l.prog w K mg base 1 "_law_begin" 1 (up sp_law_begin) := known (k := 0) F10 sc_law_begin known_nil hB klOk0 (tr_law_begin) good_law_begin (PySem.W.mg_of X G a10) b10
  have n11 : Known l.prog w K mg base 1 "_law_draw" 2 (up sp_law_draw) := known (k := 0) F11 sc_law_draw known_nil hB klOk0 (tr_law_draw) good_law_draw (PySem.W.mg_of X G a11) b11
  have n0 : KnownC l.prog w K mg base 3 "Net" 5 (up sp_Net_init) := knownC (k := 1) F0 sc_Net_init (known_cons (n8.mono (by decide)) (known_cons (n9.mono (by decide)) known_nil)) hB (klF (all_cons NF0 all_nil) (klF (all_cons NF1 all_nil) (klF (all_cons NF2 all_nil) (klF (all_cons NF3 all_nil) (klF (all_cons NF4 all_nil) (klF (all_cons NF5 all_nil) (klF (all_cons NF6 all_nil) (klF (all_cons NF7 all_nil) (klF (all_cons NF8 all_nil) (klF (all_cons NF9 all_nil) (klF (all_cons NF10 all_nil) (klF (all_cons NF11 all_nil) (klF (all_cons NF12 all_nil) (klF (all_cons NF13 all_nil) (klF (all_cons NF14 all_nil) (klF (all_cons NF15 all_nil) klOk0)))))))))))))))) (tr_Net_init (up sp_links_near) (up sp_hosts_near)) good_Net_init rfl (PySem.W.mg_of X G ac0) ⟨mk0, a0, i0, kc0⟩ b0
  have n12 : Known l.prog w K mg base 2 "_law_pick" 2 (up sp_law_pick) := known (k := 1) F12 sc_law_pick (known_cons (n11.mono (by decide)) known_nil) hB klOk0 (tr_law_pick (up sp_law_draw)) good_law_pick (PySem.W.mg_of X G a12) b12
  have n13 : Known l.prog w K mg base 2 "_law_rare" 2 (up sp_law_rare) := known (k := 1) F13 sc_law_rare (known_cons (n11.mono (by decide)) known_nil) hB klOk0 (tr_law_rare (up sp_law_draw)) good_law_rare (PySem.W.mg_of X G a13) b13
  have n14 : Known l.prog w K mg base 2 "_law_shuffled" 2 (up sp_law_shuffled) := known (k := 1) F14 sc_law_shuffled (known_cons (n11.mono (by decide)) known_nil) hB klOk0 (tr_law_shuffled (up sp_law_draw)) good_law_shuffled (PySem.W.mg_of X G a14) b14
  have n18 : Known l.prog w K mg base 2 "_law_right" 2 (up sp_law_right) := known (k := 1) F18 sc_law_right known_nil hB (klF (all_cons NF0 all_nil) (klF (all_cons NF1 all_nil) (klF (all_cons NF2 all_nil) (klF (all_cons NF3 all_nil) (klF (all_cons NF4 all_nil) (klF (all_cons NF5 all_nil) (klF (all_cons NF6 all_nil) (klF (all_cons NF7 all_nil) (klF (all_cons NF8 all_nil) (klF (all_cons NF9 all_nil) (klF (all_cons NF10 all_nil) (klF (all_cons NF11 all_nil) (klF (all_cons NF12 all_nil) (klF (all_cons NF13 all_nil) (klM (all_cons (n6.mono (by decide)) all_nil) klOk0))))))))))))))) (tr_law_right (up sp_Net_link_lot)) good_law_right (PySem.W.mg_of X G a18) b18
  have n19 : Known l.prog w K mg base 2 "_law_changed" 2 (up sp_law_changed) := known (k := 1) F19 sc_law_changed (known_cons (n11.mono (by decide)) known_nil) hB klOk0 (tr_law_changed (up sp_law_draw)) good_law_changed (PySem.W.mg_of X G a19) b19
  have n15 : Known l.prog w K mg base 3 "_law_links" 3 (up sp_law_links) := known (k := 2) F15 sc_law_links (known_cons (n13.mono (by decide)) (known_cons (n11.mono (by decide)) (known_cons (n14.mono (by decide)) known_nil))) hB klOk0 (tr_law_links (up sp_law_rare) (up sp_law_draw) (up sp_law_shuffled)) good_law_links (PySem.W.mg_of X G a15) b15
  have n16 : Known l.prog w K mg base 4 "_law_parts" 1 (up sp_law_parts) := known (k := 3) F16 sc_law_parts (known_cons (n11.mono (by decide)) (known_cons (n15.mono (by decide)) (known_cons (n12.mono (by decide)) known_nil))) hB klOk0 (tr_law_parts (up sp_law_draw) (up sp_law_links) (up sp_law_pick)) good_law_parts (PySem.W.mg_of X G a16) b16
  have n17 : Known l.prog w K mg base 4 "_law_made" 1 (up sp_law_made) := known (k := 3) F17 sc_law_made known_nil hB (klC (n0.mono (by decide)) klOk0) (tr_law_made (up sp_Net_init)) good_law_made (PySem.W.mg_of X G a17) b17
  exact law_imp (def_ok (k := 4) F20 sc_law (known_cons (n10.mono (by decide)) (known_cons (n16.mono (by decide)) (known_cons (n17.mono (by decide)) (known_cons (n18.mono (by decide)) (known_cons (n19.mono (by decide)) known_nil))))) hB (klM (all_cons (n7.mono (by decide)) all_nil) (klM (all_cons (n1.mono (by decide)) all_nil) (klM (all_cons (n2.mono (by decide)) all_nil) (klM (all_cons (n5.mono (by decide)) all_nil) (klM (all_cons (n3.mono (by decide)) all_nil) (klM (all_cons (n4.mono (by decide)) all_nil) klOk0)))))) (tr_law (up sp_law_begin) (up sp_law_parts) (up sp_law_made) (up sp_Net_form) (up sp_law_right) (up sp_Net_links_at) (up sp_Net_hosts_at) (up sp_Net_far) (up sp_Net_host_at) (up sp_Net_host_door) (up sp_law_changed)) (good_law law_holds)) fun ns S Q q => ⟨ns, rfl, q⟩
end WW
open PySem PySem.W PyProof.Rows
set_option maxHeartbeats 0 in
theorem PySem.Challenge.cw_wishweather_k11_nets_holds : PySem.Challenge.rw_wishweather_k11_nets.Holds := by
  w_on; o_law; k_head; (case hw => w_witness2)
  k_fill
  refine L2.walk_of (l := PySem.Challenge.rw_wishweather_k11_nets) (n := 63) (k := 5) (x := "script") (CX := fun _ => L2.CX0) (sp := fun w => WW.spLaw _) rfl (by decide) rfl ⟨rfl, by decide, by decide⟩ (fun w h Y => PySem.W.kIn_of Y) ?F (fun _ _ a ns hl hO hS => ⟨a, ns, rfl, hO, hS, fun _ => rfl⟩) (fun _ _ _ _ _ h => h)
  case F =>
    intro w mg fa h KX G hmg
    refine' WW.all_mk KX G hmg ?ac0 ?pg0 ?hd0 ?po0 ?sa0 ?mk0 ?kc0 ?nf0 ?nf1 ?nf2 ?nf3 ?nf4 ?nf5 ?nf6 ?nf7 ?nf8 ?nf9 ?nf10 ?nf11 ?nf12 ?nf13 ?nf14 ?nf15 ?a0 ?i0 ?l0 ?c0 ?k0 ?a1 ?i1 ?l1 ?c1 ?k1 ?a2 ?i2 ?l2 ?c2 ?k2 ?a3 ?i3 ?l3 ?c3 ?k3 ?a4 ?i4 ?l4 ?c4 ?k4 ?a5 ?i5 ?l5 ?c5 ?k5 ?a6 ?i6 ?l6 ?c6 ?k6 ?a7 ?i7 ?l7 ?c7 ?k7 ?a8 ?l8 ?c8 ?k8 ?a9 ?l9 ?c9 ?k9 ?a10 ?l10 ?c10 ?k10 ?a11 ?l11 ?c11 ?k11 ?a12 ?l12 ?c12 ?k12 ?a13 ?l13 ?c13 ?k13 ?a14 ?l14 ?c14 ?k14 ?a15 ?l15 ?c15 ?k15 ?a16 ?l16 ?c16 ?k16 ?a17 ?l17 ?c17 ?k17 ?a18 ?l18 ?c18 ?k18 ?a19 ?l19 ?c19 ?k19 ?a20 ?l20 ?c20 ?k20 ?z0 ?z1 ?z2 ?z3 ?z4 ?z5 ?z6 ?z7
    (case ac0 => k_is); (case pg0 => k_is); (case hd0 => k_is); (case po0 => k_is); (case sa0 => k_is); (case mk0 => k_is); (case kc0 => k_is); (case nf0 => k_is); (case nf1 => k_is); (case nf2 => k_is); (case nf3 => k_is); (case nf4 => k_is); (case nf5 => k_is); (case nf6 => k_is); (case nf7 => k_is); (case nf8 => k_is); (case nf9 => k_is); (case nf10 => k_is); (case nf11 => k_is); (case nf12 => k_is); (case nf13 => k_is); (case nf14 => k_is); (case nf15 => k_is); (case a0 => k_is); (case i0 => k_is); (case l0 => k_is); (case c0 => k_is); (case k0 => k_is); (case a1 => k_is); (case i1 => k_is); (case l1 => k_is); (case c1 => k_is); (case k1 => k_is); (case a2 => k_is); (case i2 => k_is); (case l2 => k_is); (case c2 => k_is); (case k2 => k_is); (case a3 => k_is); (case i3 => k_is); (case l3 => k_is); (case c3 => k_is); (case k3 => k_is); (case a4 => k_is); (case i4 => k_is); (case l4 => k_is); (case c4 => k_is); (case k4 => k_is); (case a5 => k_is); (case i5 => k_is); (case l5 => k_is); (case c5 => k_is); (case k5 => k_is); (case a6 => k_is); (case i6 => k_is); (case l6 => k_is); (case c6 => k_is); (case k6 => k_is); (case a7 => k_is); (case i7 => k_is); (case l7 => k_is); (case c7 => k_is); (case k7 => k_is); (case a8 => k_is); (case l8 => k_is); (case c8 => k_is); (case k8 => k_is); (case a9 => k_is); (case l9 => k_is); (case c9 => k_is); (case k9 => k_is); (case a10 => k_is); (case l10 => k_is); (case c10 => k_is); (case k10 => k_is); (case a11 => k_is); (case l11 => k_is); (case c11 => k_is); (case k11 => k_is); (case a12 => k_is); (case l12 => k_is); (case c12 => k_is); (case k12 => k_is); (case a13 => k_is); (case l13 => k_is); (case c13 => k_is); (case k13 => k_is); (case a14 => k_is); (case l14 => k_is); (case c14 => k_is); (case k14 => k_is); (case a15 => k_is); (case l15 => k_is); (case c15 => k_is); (case k15 => k_is); (case a16 => k_is); (case l16 => k_is); (case c16 => k_is); (case k16 => k_is); (case a17 => k_is); (case l17 => k_is); (case c17 => k_is); (case k17 => k_is); (case a18 => k_is); (case l18 => k_is); (case c18 => k_is); (case k18 => k_is); (case a19 => k_is); (case l19 => k_is); (case c19 => k_is); (case k19 => k_is); (case a20 => k_is); (case l20 => k_is); (case c20 => k_is); (case k20 => k_is); (case z0 => k_is); (case z1 => k_is); (case z2 => k_is); (case z3 => k_is); (case z4 => k_is); (case z5 => k_is); (case z6 => k_is); (case z7 => k_is)


