import PyProof.Rows.All
import Wide.All
import OpenK.AllK
import Wide.FinOn
import HandS.ForMost
import HandS.WideBits
import HandS.Wide
import HandS.Flow
import HandS.TupAny
import HandS.Zip
import HandS.Exc
import HandS.ExcOwn
import HandS.TryOnly
import HandS.TryMany
import HandS.ExcSuper
import HandS.ExcInit
import HandS.Deep
import HandS.TupLen
import HandS.Conv
import HandS.IsInst
import HandS.SetFor
import HandS.SortInts
import HandS.Text
import HandS.WordsExc
import KE.OsArith
import HandS.Codes
import PySem.Challenge.RW_wishweather_k04_cubes_part_a_lot
set_option Elab.async false
set_option linter.all false
set_option maxRecDepth 100000
set_option maxHeartbeats 4000000
set_option autoImplicit false
namespace WW
open PySem PySem.Spec PyProof.Rows L2

/-! ### clean data, clean store, clean readings -/
/-- what the machine knows from its start: its constants, where the classes stand -/
structure KF where
  K : PySem.W.Frag
  cl : Str → Addr
inductive D where
  | non | bl (b : Bool) | int (i : Int) | str (s : Str) | tup (xs : List D) | fro (xs : List D) | ref (n : Nat)
/-- what stands in the store: lists; dicts by ints and texts, dicts by tuples of them (true: a loop walks it); instances of a class -/
inductive O where
  | lst (xs : List D)
  | dK (fz : Bool) (kvs : List (Key × D))
  | dT (fz : Bool) (kvs : List (List Key × D))
  | ins (c : Str) (fs : List (Str × D))
abbrev Sto := List O
abbrev Rho := List (Option D)
/-- what is asked of an exception: its class, its fields -/
abbrev XQ := Str → List (Str × D) → Sto → Prop
abbrev XE := Str → List (Str × D) → Rho → Sto → Prop
abbrev Env := XQ × Rho
abbrev Q1 := D → Sto → Prop
abbrev W := Env → Sto → Q1 → Prop
abbrev WA := Env → Sto → (List D → Sto → Prop) → Prop
abbrev WT := Env → Sto → (Bool → Sto → Prop) → Prop
structure KK where
  nx : Rho → Sto → Prop
  rt : Q1
  bk : Rho → Sto → Prop
  ct : Rho → Sto → Prop
  ex : XE
abbrev WS := KK → Rho → Sto → Prop
def KK.en (k : KK) (ρ : Rho) : Env := (fun c fs S => k.ex c fs ρ S, ρ)
abbrev Spec := List D → Sto → Q1 → Prop
abbrev SpecX := List D → Sto → Q1 → XQ → Prop
def noX : XQ := fun _ _ _ => False

def look : Rho → Nat → Option D
  | [], _ => none
  | x :: _, 0 => x
  | _ :: r, n + 1 => look r n
def putR : Rho → Nat → Option D → Rho
  | [], _, _ => []
  | _ :: r, 0, y => y :: r
  | x :: r, n + 1, y => x :: putR r n y
theorem putR_len (r : Rho) (i : Nat) (y : Option D) : (putR r i y).length = r.length := by
  induction r generalizing i with
  | nil => rfl
  | cons x r ih => cases i with
    | zero => rfl
    | succ n => show (putR r n y).length + 1 = r.length + 1; rw [ih]
theorem look_putR (r : Rho) (i j : Nat) (y : Option D) : look (putR r i y) j = if i = j ∧ i < r.length then y else look r j := by
  induction r generalizing i j with
  | nil => simp [putR, look]
  | cons x r ih =>
    cases i with
    | zero => cases j with
      | zero => simp [putR, look]
      | succ m => simp [putR, look]
    | succ n => cases j with
      | zero => simp [putR, look]
      | succ m => simp [putR, look, ih]
theorem look_get (r : Rho) (i : Nat) : look r i = (r[i]?).join := by
  induction r generalizing i with
  | nil => rfl
  | cons x r ih => cases i with
    | zero => rfl
    | succ n => simpa [look] using ih n

/-! ### how the machine's heap bears clean data -/
def SqK (K : KF) (H : Hp) (a : Addr) (xs : List V) : Prop := (∃ o, H a = some (.frz o (.lst xs))) ∨ ∀ H', SqL K.K H' a xs
mutual
def RepV (K : KF) (H : Hp) (ι : List Addr) : D → V → Prop
  | .non, v => v = .non
  | .bl b, v => v = .bl b
  | .int i, v => v = .int i
  | .str s, v => v = .str s
  | .ref n, v => ∃ a, ι[n]? = some a ∧ v = .ref a
  | .tup ds, v => ∃ a xs, v = .ref a ∧ H a = some (.tup xs) ∧ RepVs K H ι ds xs
  | .fro ds, v => ∃ a xs, v = .ref a ∧ SqK K H a xs ∧ RepVs K H ι ds xs
def RepVs (K : KF) (H : Hp) (ι : List Addr) : List D → List V → Prop
  | [], xs => xs = []
  | d :: ds, xs => ∃ x r, xs = x :: r ∧ RepV K H ι d x ∧ RepVs K H ι ds r
end
/-- tables: the same keys, what they hold alike -/
def RepKV {α : Type} (K : KF) (H : Hp) (ι : List Addr) (ds : List (α × D)) (vs : List (α × V)) : Prop := ds.map (·.1) = vs.map (·.1) ∧ RepVs K H ι (ds.map (·.2)) (vs.map (·.2))
def FzIs (fz : Bool) (o u : HO) : Prop := match fz with
  | false => o = u
  | true => ∃ ob, o = .frz ob u
/-- the machine's object bears the clean one -/
def Bear (K : KF) (H : Hp) (ι : List Addr) : O → HO → Prop
  | .lst ds, o => ∃ xs, o = .lst xs ∧ RepVs K H ι ds xs
  | .dK fz ds, o => ∃ xs, FzIs fz o (.dK xs) ∧ RepKV K H ι ds xs
  | .dT fz ds, o => ∃ xs, FzIs fz o (.dT xs) ∧ RepKV K H ι ds xs
  | .ins c fs, o => ∃ dx xs, o = .ins (K.cl c) dx xs ∧ RepKV K H ι fs xs
def MutO : HO → Prop
  | .lst _ => True
  | .dK _ => True
  | .dT _ => True
  | .ins _ _ _ => True
  | .frz _ (.dK _) => True
  | .frz _ (.dT _) => True
  | _ => False
structure RepS (K : KF) (H : Hp) (ι : List Addr) (S : Sto) : Prop where
  len : ι.length = S.length
  nd : ι.Nodup
  ob : ∀ (n : Nat) (a : Addr) (u : O), ι[n]? = some a → S[n]? = some u → ∃ o, H a = some o ∧ Bear K H ι u o
structure RepR (K : KF) (H : Hp) (ι : List Addr) (σ : L2.St) (ρ : Rho) : Prop where
  len : σ.length = ρ.length
  at_ : ∀ (i : Nat) (d : D), look ρ i = some d → ∃ v, σ[i]? = some (some v) ∧ RepV K H ι d v
structure Tr (H : Hp) (ι : List Addr) (H' : Hp) (ι' : List Addr) : Prop where
  ext : ∃ t, ι' = ι ++ t ∧ ∀ a ∈ t, a ∈ ι ∨ H a = none
  keep : ∀ (a : Addr) (o : HO), H a = some o → a ∉ ι → H' a = some o
  frz : ∀ (a : Addr) (ob : Obj) (u : HO), H a = some (.frz ob u) → H' a = some (.frz ob u)
/-- it is not locked -/
def NFz (H : Hp) (a : Addr) : Prop := ∀ ob u, H a ≠ some (.frz ob u)
/-- an exception in the air -/
def XRep (K : KF) (H : Hp) (ι : List Addr) (c : Str) (fs : List (Str × D)) (cls : Value) (d : Option Addr) : Prop :=
  cls = .ref (K.cl c) ∧ ((fs = [] ∧ d = none) ∨ ∃ a xs, d = some a ∧ H a = some (.xd xs) ∧ RepKV K H ι fs xs)
def EnX (K : KF) (H : Hp) (ι : List Addr) (x : XQ) (w : Value → Option Addr → Hp → Prop) : Prop :=
  ∀ c fs S' H' ι' cls d, Tr H ι H' ι' → RepS K H' ι' S' → XRep K H' ι' c fs cls d → x c fs S' → w cls d H'
structure RepE (K : KF) (W : WX) (H : Hp) (ι : List Addr) (σ : L2.St) (e : Env) : Prop where
  r : RepR K H ι σ e.2
  x : EnX K H ι e.1 (fun cls d H' => W cls d σ H')

section
variable {K : KF} {W : WX} {H H1 H2 H' : Hp} {ι ι1 ι2 ι' : List Addr} {S S1 S' : Sto} {σ : L2.St} {ρ : Rho} {e : Env}
theorem Tr.refl (H : Hp) (ι : List Addr) : Tr H ι H ι := ⟨⟨[], by simp, by simp⟩, fun _ _ h _ => h, fun _ _ _ h => h⟩
theorem Tr.trans (a : Tr H ι H1 ι1) (b : Tr H1 ι1 H2 ι2) : Tr H ι H2 ι2 := by
  obtain ⟨t, e, h⟩ := a.ext
  obtain ⟨t1, e1, h1⟩ := b.ext
  have hm : ∀ x, x ∈ ι1 → x ∈ ι ∨ H x = none := fun x hx => by
    rw [e] at hx
    rcases List.mem_append.mp hx with q | q
    · exact .inl q
    · exact h x q
  refine ⟨⟨t ++ t1, by rw [e1, e, List.append_assoc], fun x hx => ?_⟩, fun x o hx hn => ?_, fun x ob u h => b.frz x ob u (a.frz x ob u h)⟩
  · rcases List.mem_append.mp hx with q | q
    · exact h x q
    · rcases h1 x q with q | q
      · exact hm x q
      · by_cases hx : x ∈ ι
        · exact .inl hx
        · right
          cases e2 : H x with
          | none => rfl
          | some o => rw [a.keep x o e2 hx] at q; cases q
  · refine b.keep x o (a.keep x o hx hn) fun hq => ?_
    rcases hm x hq with q | q
    · exact hn q
    · rw [hx] at q; cases q
theorem Tr.get (T : Tr H ι H' ι') {n : Nat} {a : Addr} (h : ι[n]? = some a) : ι'[n]? = some a := by
  obtain ⟨t, e, _⟩ := T.ext
  rw [e, List.getElem?_append_left (List.getElem?_eq_some_iff.mp h).1]
  exact h
theorem FzIs.mut {fz : Bool} {o u : HO} (h : FzIs fz o u) (m : MutO u) (m' : ∀ ob, MutO (.frz ob u)) : MutO o := by
  cases fz with
  | false => cases (show o = u from h); exact m
  | true => obtain ⟨ob, rfl⟩ := h; exact m' ob
theorem Bear.mut {u : O} {o : HO} (h : Bear K H ι u o) : MutO o := by
  cases u with
  | lst ds => obtain ⟨xs, rfl, _⟩ := h; trivial
  | dK fz ds => obtain ⟨xs, h, _⟩ := h; exact h.mut trivial fun _ => trivial
  | dT fz ds => obtain ⟨xs, h, _⟩ := h; exact h.mut trivial fun _ => trivial
  | ins c fs => obtain ⟨dx, xs, rfl, _⟩ := h; trivial
theorem RepS.has (R : RepS K H ι S) {a : Addr} (h : a ∈ ι) : ∃ o, H a = some o ∧ MutO o := by
  obtain ⟨n, hn, e⟩ := List.mem_iff_getElem.mp h
  have hn2 : n < S.length := by rw [← R.len]; exact hn
  obtain ⟨o, e1, b⟩ := R.ob n a S[n] (by rw [List.getElem?_eq_getElem hn, e]) (List.getElem?_eq_getElem hn2)
  exact ⟨o, e1, b.mut⟩
theorem RepS.fresh (R : RepS K H ι S) {p : Addr} (h : H p = none) : p ∉ ι := fun q => by
  obtain ⟨o, e, _⟩ := R.has q
  rw [h] at e; cases e
theorem RepS.not (R : RepS K H ι S) {p : Addr} {o : HO} (h : H p = some o) (m : ¬ MutO o) : p ∉ ι := fun q => by
  obtain ⟨u, e, mu⟩ := R.has q
  rw [h] at e; cases e
  exact m mu
theorem Tr.nmem (T : Tr H ι H' ι') {a : Addr} {o : HO} (h : H a = some o) (hn : a ∉ ι) : a ∉ ι' := fun q => by
  obtain ⟨t, e, ht⟩ := T.ext
  rw [e] at q
  rcases List.mem_append.mp q with q | q
  · exact hn q
  · rcases ht a q with q | q
    · exact hn q
    · rw [h] at q; cases q
theorem tup_tr {a : Addr} {xs : List V} (R : RepS K H ι S) (T : Tr H ι H' ι') (h : H a = some (.tup xs)) : H' a = some (.tup xs) := T.keep a _ h (R.not h id)
theorem SqK.tr {a : Addr} {xs : List V} (R : RepS K H ι S) (T : Tr H ι H' ι') (h : SqK K H a xs) : SqK K H' a xs := by
  rcases h with ⟨o, h⟩ | h
  · exact .inl ⟨o, T.keep a _ h (R.not h id)⟩
  · exact .inr h
theorem SqK.sq {a : Addr} {xs : List V} (h : SqK K H a xs) : SqL K.K H a xs := by
  rcases h with ⟨o, h⟩ | h
  · exact .inl (.inr ⟨o, h⟩)
  · exact h H
section
variable (R : RepS K H ι S) (g : ∀ {n : Nat} {a : Addr}, ι[n]? = some a → ι'[n]? = some a) (kp : ∀ (a : Addr) (o : HO), H a = some o → a ∉ ι → H' a = some o)
include R g kp
mutual
theorem RepV.tr0 : ∀ (d : D) (v : V), RepV K H ι d v → RepV K H' ι' d v
  | .non, _, h => h
  | .bl _, _, h => h
  | .int _, _, h => h
  | .str _, _, h => h
  | .ref n, v, h => by
    obtain ⟨a, h1, h2⟩ := h
    exact ⟨a, g h1, h2⟩
  | .tup ds, v, h => by
    obtain ⟨a, xs, h1, h2, h3⟩ := h
    exact ⟨a, xs, h1, kp a _ h2 (R.not h2 id), RepVs.tr0 ds xs h3⟩
  | .fro ds, v, h => by
    obtain ⟨a, xs, h1, h2, h3⟩ := h
    refine ⟨a, xs, h1, ?_, RepVs.tr0 ds xs h3⟩
    rcases h2 with ⟨o, h⟩ | h
    · exact .inl ⟨o, kp a _ h (R.not h id)⟩
    · exact .inr h
theorem RepVs.tr0 : ∀ (ds : List D) (xs : List V), RepVs K H ι ds xs → RepVs K H' ι' ds xs
  | [], _, h => h
  | d :: ds, xs, h => by
    obtain ⟨x, r, h1, h2, h3⟩ := h
    exact ⟨x, r, h1, RepV.tr0 d x h2, RepVs.tr0 ds r h3⟩
end
end
theorem RepV.tr (R : RepS K H ι S) (T : Tr H ι H' ι') (d : D) (v : V) (h : RepV K H ι d v) : RepV K H' ι' d v := RepV.tr0 R T.get T.keep d v h
theorem RepVs.tr (R : RepS K H ι S) (T : Tr H ι H' ι') (ds : List D) (xs : List V) (h : RepVs K H ι ds xs) : RepVs K H' ι' ds xs := RepVs.tr0 R T.get T.keep ds xs h
theorem RepKV.tr {α : Type} {ds : List (α × D)} {vs : List (α × V)} (R : RepS K H ι S) (T : Tr H ι H' ι') (h : RepKV K H ι ds vs) : RepKV K H' ι' ds vs := ⟨h.1, RepVs.tr R T _ _ h.2⟩
theorem Bear.mv {u : O} {o : HO} (f : ∀ ds xs, RepVs K H ι ds xs → RepVs K H' ι' ds xs) (h : Bear K H ι u o) : Bear K H' ι' u o := by
  cases u with
  | lst ds => obtain ⟨xs, e, r⟩ := h; exact ⟨xs, e, f _ _ r⟩
  | dK fz ds => obtain ⟨xs, e, r⟩ := h; exact ⟨xs, e, r.1, f _ _ r.2⟩
  | dT fz ds => obtain ⟨xs, e, r⟩ := h; exact ⟨xs, e, r.1, f _ _ r.2⟩
  | ins c fs => obtain ⟨dx, xs, e, r⟩ := h; exact ⟨dx, xs, e, r.1, f _ _ r.2⟩
theorem Bear.tr {u : O} {o : HO} (R : RepS K H ι S) (T : Tr H ι H' ι') (h : Bear K H ι u o) : Bear K H' ι' u o := h.mv (RepVs.tr R T)
theorem RepR.tr (R : RepS K H ι S) (T : Tr H ι H' ι') (h : RepR K H ι σ ρ) : RepR K H' ι' σ ρ :=
  ⟨h.len, fun i d e => let ⟨v, a, b⟩ := h.at_ i d e; ⟨v, a, RepV.tr R T d v b⟩⟩
theorem EnX.tr {x : XQ} {w : Value → Option Addr → Hp → Prop} (T : Tr H ι H' ι') (h : EnX K H ι x w) : EnX K H' ι' x w := fun c fs S2 H2 ι2 cls d T2 R2 xr q => h c fs S2 H2 ι2 cls d (T.trans T2) R2 xr q
theorem EnX.no {w : Value → Option Addr → Hp → Prop} : EnX K H ι noX w := fun _ _ _ _ _ _ _ _ _ _ q => q.elim
theorem RepE.tr (R : RepS K H ι S) (T : Tr H ι H' ι') (h : RepE K W H ι σ e) : RepE K W H' ι' σ e := ⟨h.r.tr R T, h.x.tr T⟩
theorem RepVs.length : ∀ {ds : List D} {xs : List V}, RepVs K H ι ds xs → ds.length = xs.length
  | [], _, h => by cases h; rfl
  | _ :: ds, _, h => by
    obtain ⟨x, r, rfl, _, h3⟩ := h
    rw [List.length_cons, List.length_cons, RepVs.length h3]
theorem RepVs.get : ∀ {ds : List D} {xs : List V} {i : Nat} {d : D}, RepVs K H ι ds xs → ds[i]? = some d → ∃ x, xs[i]? = some x ∧ RepV K H ι d x
  | [], _, _, _, _, e => by simp at e
  | d :: ds, _, 0, _, h, e => by
    obtain ⟨x, r, rfl, h2, h3⟩ := h
    simp at e; subst e
    exact ⟨x, rfl, h2⟩
  | _ :: ds, _, i + 1, d, h, e => by
    obtain ⟨x, r, rfl, h2, h3⟩ := h
    obtain ⟨y, e1, e2⟩ := RepVs.get (i := i) (d := d) h3 (by simpa using e)
    exact ⟨y, by simpa using e1, e2⟩
theorem RepVs.getV : ∀ {ds : List D} {xs : List V} {i : Nat} {x : V}, RepVs K H ι ds xs → xs[i]? = some x → ∃ d, ds[i]? = some d ∧ RepV K H ι d x
  | [], _, _, _, h, e => by cases h; simp at e
  | d :: ds, _, 0, _, h, e => by
    obtain ⟨x, r, rfl, h2, h3⟩ := h
    simp at e; subst e
    exact ⟨d, rfl, h2⟩
  | _ :: ds, _, i + 1, x, h, e => by
    obtain ⟨y, r, rfl, h2, h3⟩ := h
    obtain ⟨d, e1, e2⟩ := RepVs.getV (i := i) (x := x) h3 (by simpa using e)
    exact ⟨d, by simpa using e1, e2⟩
theorem RepVs.app : ∀ {ds es : List D} {xs ys : List V}, RepVs K H ι ds xs → RepVs K H ι es ys → RepVs K H ι (ds ++ es) (xs ++ ys)
  | [], _, _, _, h, g => by cases h; exact g
  | d :: ds, _, _, _, h, g => by
    obtain ⟨x, r, rfl, h2, h3⟩ := h
    exact ⟨x, r ++ _, rfl, h2, RepVs.app h3 g⟩
theorem RepVs.one {d : D} {v : V} (h : RepV K H ι d v) : RepVs K H ι [d] [v] := ⟨v, [], rfl, h, rfl⟩
theorem RepVs.take : ∀ {ds : List D} {xs : List V} (n : Nat), RepVs K H ι ds xs → RepVs K H ι (ds.take n) (xs.take n)
  | _, _, 0, _ => by rw [List.take_zero, List.take_zero]; rfl
  | [], _, n + 1, h => by cases h; rfl
  | d :: ds, _, n + 1, h => by
    obtain ⟨x, r, rfl, h2, h3⟩ := h
    exact ⟨x, r.take n, rfl, h2, RepVs.take n h3⟩
theorem RepVs.drop : ∀ {ds : List D} {xs : List V} (n : Nat), RepVs K H ι ds xs → RepVs K H ι (ds.drop n) (xs.drop n)
  | _, _, 0, h => h
  | [], _, n + 1, h => by cases h; rfl
  | d :: ds, _, n + 1, h => by
    obtain ⟨x, r, rfl, h2, h3⟩ := h
    exact RepVs.drop n h3
theorem RepVs.set : ∀ {ds : List D} {xs : List V} {d : D} {v : V} (i : Nat), RepVs K H ι ds xs → RepV K H ι d v → RepVs K H ι (ds.set i d) (xs.set i v)
  | [], _, _, _, _, h, _ => by cases h; rfl
  | _ :: ds, _, _, _, 0, h, g => by
    obtain ⟨x, r, rfl, h2, h3⟩ := h
    exact ⟨_, r, rfl, g, h3⟩
  | _ :: ds, _, _, _, i + 1, h, g => by
    obtain ⟨x, r, rfl, h2, h3⟩ := h
    exact ⟨x, r.set i _, rfl, h2, RepVs.set i h3 g⟩
theorem RepVs.rev : ∀ {ds : List D} {xs : List V}, RepVs K H ι ds xs → RepVs K H ι ds.reverse xs.reverse
  | [], _, h => by cases h; rfl
  | d :: ds, _, h => by
    obtain ⟨x, r, rfl, h2, h3⟩ := h
    rw [List.reverse_cons, List.reverse_cons]
    exact RepVs.app (RepVs.rev h3) (RepVs.one h2)
/-- a new object that the store does not know -/
theorem Tr.new {p : Addr} {o : HO} (R : RepS K H ι S) (h : H p = none) : Tr H ι (upd H p o) ι :=
  ⟨⟨[], by simp, by simp⟩, fun a u e _ => by rw [upd_ne (ne_of_none e h)]; exact e, fun a ob u e => by rw [upd_ne (ne_of_none e h)]; exact e⟩
theorem RepS.new {p : Addr} {o : HO} (R : RepS K H ι S) (h : H p = none) : RepS K (upd H p o) ι S :=
  ⟨R.len, R.nd, fun n a u e1 e2 => by
    obtain ⟨q, e, b⟩ := R.ob n a u e1 e2
    exact ⟨q, by rw [upd_ne (ne_of_none e h)]; exact e, b.tr R (Tr.new R h)⟩⟩
/-- a new object of the store -/
theorem Tr.alloc {p : Addr} {o : HO} (R : RepS K H ι S) (h : H p = none) : Tr H ι (upd H p o) (ι ++ [p]) :=
  ⟨⟨[p], rfl, fun a ha => by
    rw [List.mem_singleton] at ha
    subst ha
    exact .inr h⟩, fun a u e _ => by rw [upd_ne (ne_of_none e h)]; exact e, fun a ob u e => by rw [upd_ne (ne_of_none e h)]; exact e⟩
theorem RepS.allocO {p : Addr} {o : HO} {u : O} (R : RepS K H ι S) (h : H p = none) (r : Bear K H ι u o) : RepS K (upd H p o) (ι ++ [p]) (S ++ [u]) := by
  have T : Tr H ι (upd H p o) (ι ++ [p]) := Tr.alloc R h
  refine ⟨by simp [R.len], ?_, fun n a v e1 e2 => ?_⟩
  · rw [List.nodup_append]
    refine ⟨R.nd, by simp, fun a ha b hb => ?_⟩
    rw [List.mem_singleton] at hb
    subst hb
    intro e
    subst e
    exact R.fresh h ha
  · by_cases hn : n < ι.length
    · rw [List.getElem?_append_left hn] at e1
      rw [List.getElem?_append_left (by rw [← R.len]; exact hn)] at e2
      obtain ⟨q, e, b⟩ := R.ob n a v e1 e2
      exact ⟨q, by rw [upd_ne (ne_of_none e h)]; exact e, b.tr R T⟩
    · rw [List.getElem?_append_right (Nat.le_of_not_lt hn)] at e1
      rw [List.getElem?_append_right (by rw [← R.len]; exact Nat.le_of_not_lt hn), ← R.len] at e2
      cases hk : n - ι.length with
      | zero =>
        rw [hk] at e1 e2
        simp at e1 e2
        subst e1
        subst e2
        exact ⟨o, upd_same, r.tr R T⟩
      | succ k =>
        rw [hk] at e1
        simp at e1
theorem RepS.alloc {p : Addr} {xs : List V} {ds : List D} (R : RepS K H ι S) (h : H p = none) (r : RepVs K H ι ds xs) : RepS K (upd H p (.lst xs)) (ι ++ [p]) (S ++ [.lst ds]) := R.allocO h ⟨xs, rfl, r⟩
theorem RepV.newO {p : Addr} (R : RepS K H ι S) (H' : Hp) : RepV K H' (ι ++ [p]) (.ref S.length) (.ref p) :=
  ⟨p, by rw [← R.len]; simp, rfl⟩
theorem RepV.new {p : Addr} {xs : List V} (R : RepS K H ι S) : RepV K (upd H p (.lst xs)) (ι ++ [p]) (.ref S.length) (.ref p) := RepV.newO R _
/-- an object of the store changed -/
theorem nfz {a : Addr} {o : HO} (h : H a = some o) (m : ∀ ob u, o ≠ .frz ob u := by intro ob u z; cases z) : NFz H a := fun ob u e => by
  rw [h] at e
  exact m ob u (Option.some.inj e)
theorem Tr.write {n : Nat} {a : Addr} {o : HO} (R : RepS K H ι S) (h : ι[n]? = some a) (hz : NFz H a) : Tr H ι (upd H a o) ι :=
  ⟨⟨[], by simp, by simp⟩, fun b u e hn => by
    rw [upd_ne (fun z => hn (by subst z; exact List.mem_of_getElem? h))]
    exact e, fun b ob u e => by rw [upd_ne (fun z => by subst z; exact hz ob u e)]; exact e⟩
theorem RepS.same (R : RepS K H ι S) {n m : Nat} {a : Addr} (h1 : ι[n]? = some a) (h2 : ι[m]? = some a) : n = m := by
  obtain ⟨h3, e3⟩ := List.getElem?_eq_some_iff.mp h1
  obtain ⟨h4, e4⟩ := List.getElem?_eq_some_iff.mp h2
  exact (List.getElem_inj R.nd).mp (e3.trans e4.symm)
theorem RepS.writeO {n : Nat} {a : Addr} {o : HO} {u : O} (R : RepS K H ι S) (h : ι[n]? = some a) (r : Bear K H ι u o) : RepS K (upd H a o) ι (S.set n u) := by
  have T : ∀ ds xs, RepVs K H ι ds xs → RepVs K (upd H a o) ι ds xs := RepVs.tr0 R id fun b u e hn => by
    rw [upd_ne (fun z => hn (by subst z; exact List.mem_of_getElem? h))]
    exact e
  refine ⟨by simp [R.len], R.nd, fun m b v e1 e2 => ?_⟩
  by_cases hm : n = m
  · subst hm
    rw [h] at e1
    cases e1
    rw [List.getElem?_set_self (by
      rw [← R.len]
      exact (List.getElem?_eq_some_iff.mp h).1)] at e2
    cases e2
    exact ⟨o, upd_same, r.mv T⟩
  · rw [List.getElem?_set_ne hm] at e2
    obtain ⟨q, e, b'⟩ := R.ob m b v e1 e2
    have hb : b ≠ a := fun z => by
      subst z
      exact hm (R.same h e1)
    exact ⟨q, by rw [upd_ne hb]; exact e, b'.mv T⟩
theorem RepS.write {n : Nat} {a : Addr} {xs : List V} {ds : List D} (R : RepS K H ι S) (h : ι[n]? = some a) (r : RepVs K H ι ds xs) : RepS K (upd H a (.lst xs)) ι (S.set n (.lst ds)) := R.writeO h ⟨xs, rfl, r⟩
theorem RepS.obj {n : Nat} {v : V} {u : O} (R : RepS K H ι S) (h : RepV K H ι (.ref n) v) (e : S[n]? = some u) : ∃ a o, v = .ref a ∧ ι[n]? = some a ∧ H a = some o ∧ Bear K H ι u o := by
  obtain ⟨a, e1, e2⟩ := h
  obtain ⟨o, q1, q2⟩ := R.ob n a _ e1 e
  exact ⟨a, o, e2, e1, q1, q2⟩
theorem RepS.list {n : Nat} {v : V} {ds : List D} (R : RepS K H ι S) (h : RepV K H ι (.ref n) v) (e : S[n]? = some (.lst ds)) : ∃ a xs, v = .ref a ∧ ι[n]? = some a ∧ H a = some (.lst xs) ∧ RepVs K H ι ds xs := by
  obtain ⟨a, o, h1, h2, h3, xs, rfl, r⟩ := R.obj h e
  exact ⟨a, xs, h1, h2, h3, r⟩
theorem RepS.inst {n : Nat} {v : V} {c : Str} {fs : List (Str × D)} (R : RepS K H ι S) (h : RepV K H ι (.ref n) v) (e : S[n]? = some (.ins c fs)) : ∃ a dx xs, v = .ref a ∧ ι[n]? = some a ∧ H a = some (.ins (K.cl c) dx xs) ∧ RepKV K H ι fs xs := by
  obtain ⟨a, o, h1, h2, h3, dx, xs, rfl, r⟩ := R.obj h e
  exact ⟨a, dx, xs, h1, h2, h3, r⟩
theorem RepR.put {i : Nat} {d : D} {v : V} (h : RepR K H ι σ ρ) (r : RepV K H ι d v) : RepR K H ι (σ.set i (some v)) (putR ρ i (some d)) := by
  refine ⟨by rw [List.length_set, putR_len]; exact h.len, fun j e hj => ?_⟩
  rw [look_putR] at hj
  split at hj
  · rename_i c
    cases hj
    obtain ⟨c1, c2⟩ := c
    subst c1
    exact ⟨v, List.getElem?_set_self (by rw [h.len]; exact c2), r⟩
  · rename_i c
    obtain ⟨u, e1, e2⟩ := h.at_ j e hj
    by_cases hij : i = j
    · subst hij
      have : i < σ.length := (List.getElem?_eq_some_iff.mp e1).1
      exact absurd ⟨rfl, by rw [← h.len]; exact this⟩ c
    · exact ⟨u, by rw [List.getElem?_set_ne hij]; exact e1, e2⟩
theorem RepR.wipe1 {i : Nat} (h : RepR K H ι σ ρ) : RepR K H ι (σ.set i none) (putR ρ i none) := by
  refine ⟨by rw [List.length_set, putR_len]; exact h.len, fun j e hj => ?_⟩
  rw [look_putR] at hj
  split at hj
  · cases hj
  · rename_i c
    obtain ⟨u, e1, e2⟩ := h.at_ j e hj
    by_cases hij : i = j
    · subst hij
      have : i < σ.length := (List.getElem?_eq_some_iff.mp e1).1
      exact absurd ⟨rfl, by rw [← h.len]; exact this⟩ c
    · exact ⟨u, by rw [List.getElem?_set_ne hij]; exact e1, e2⟩
def wipeR (ρ : Rho) : List Nat → Rho
  | [] => ρ
  | v :: vs => putR (wipeR ρ vs) v none
theorem RepR.wipe (h : RepR K H ι σ ρ) : ∀ vs : List Nat, RepR K H ι (L2.wipe σ vs) (wipeR ρ vs)
  | [] => h
  | v :: vs => (RepR.wipe h vs).wipe1
theorem RepR.start : ∀ {ds : List D} {vs : List V}, RepVs K H ι ds vs → ∀ n, RepR K H ι (vs.map some ++ List.replicate n none) (ds.map some ++ List.replicate n none) := fun {ds vs} h n => by
  refine ⟨by simp [h.length], fun i d hi => ?_⟩
  rw [look_get] at hi
  by_cases hl : i < ds.length
  · rw [List.getElem?_append_left (by simpa using hl)] at hi
    have e1 : ds[i]? = some d := by
      rw [List.getElem?_map] at hi
      cases q : ds[i]? with
      | none => rw [q] at hi; simp at hi
      | some z => rw [q] at hi; simpa using hi
    obtain ⟨x, e2, r⟩ := h.get e1
    refine ⟨x, ?_, r⟩
    rw [List.getElem?_append_left (by rw [List.length_map]; exact (List.getElem?_eq_some_iff.mp e2).1), List.getElem?_map, e2]
    rfl
  · rw [List.getElem?_append_right (by simpa using hl), List.getElem?_replicate] at hi
    split at hi <;> simp at hi
end

/-! ### tables -/
section
variable {κ : Type} [DecidableEq κ] {α : Type}
def getA (kvs : List (κ × α)) (k : κ) : Option α := (kvs.find? fun kv => decide (kv.1 = k)).map (·.2)
def putA (kvs : List (κ × α)) (k : κ) (v : α) : List (κ × α) :=
  if (kvs.any fun kv => decide (kv.1 = k)) = true then kvs.map (fun kv => if kv.1 = k then (kv.1, v) else kv) else kvs ++ [(k, v)]
def dropA (kvs : List (κ × α)) (k : κ) : List (κ × α) := kvs.filter fun kv => decide (kv.1 ≠ k)
end
section
variable {K : KF} {H : Hp} {ι : List Addr} {κ : Type} [DecidableEq κ] {ds : List (κ × D)} {vs : List (κ × V)}
theorem RepKV.nil : RepKV K H ι ([] : List (κ × D)) [] := ⟨rfl, rfl⟩
theorem RepKV.cases_nil {vs : List (κ × V)} (h : RepKV K H ι ([] : List (κ × D)) vs) : vs = [] := by
  have := h.1
  cases vs with
  | nil => rfl
  | cons _ _ => cases this
theorem RepKV.uncons {p : κ × D} {r : List (κ × D)} {vs : List (κ × V)} (h : RepKV K H ι (p :: r) vs) : ∃ v s, vs = (p.1, v) :: s ∧ RepV K H ι p.2 v ∧ RepKV K H ι r s := by
  obtain ⟨h1, h2⟩ := h
  cases vs with
  | nil => cases h1
  | cons q s =>
    rw [List.map_cons, List.map_cons] at h1
    injection h1 with h1 h3
    obtain ⟨x, t, e, r1, r2⟩ := h2
    rw [List.map_cons] at e
    injection e with e1 e2
    subst e1
    subst e2
    refine ⟨q.2, s, ?_, r1, h3, r2⟩
    rw [h1]
theorem RepKV.cons {k : κ} {d : D} {v : V} (r : RepV K H ι d v) (h : RepKV K H ι ds vs) : RepKV K H ι ((k, d) :: ds) ((k, v) :: vs) :=
  ⟨by rw [List.map_cons, List.map_cons, h.1], v, _, rfl, r, h.2⟩
theorem RepKV.app {es : List (κ × D)} {ws : List (κ × V)} (h : RepKV K H ι ds vs) (g : RepKV K H ι es ws) : RepKV K H ι (ds ++ es) (vs ++ ws) :=
  ⟨by rw [List.map_append, List.map_append, h.1, g.1], by rw [List.map_append, List.map_append]; exact RepVs.app h.2 g.2⟩
theorem RepKV.length (h : RepKV K H ι ds vs) : ds.length = vs.length := by
  have := congrArg List.length h.1
  rwa [List.length_map, List.length_map] at this
theorem RepKV.any {k : κ} : ∀ {ds : List (κ × D)} {vs : List (κ × V)}, RepKV K H ι ds vs → (ds.any fun kv => decide (kv.1 = k)) = vs.any fun kv => decide (kv.1 = k)
  | [], _, h => by rw [h.cases_nil]; rfl
  | p :: r, _, h => by
    obtain ⟨v, s, rfl, _, h2⟩ := h.uncons
    rw [List.any_cons, List.any_cons, RepKV.any h2]
theorem RepKV.get {k : κ} : ∀ {ds : List (κ × D)} {vs : List (κ × V)}, RepKV K H ι ds vs → (getA ds k = none ∧ valV vs k = none) ∨ ∃ d v, getA ds k = some d ∧ valV vs k = some v ∧ RepV K H ι d v
  | [], _, h => by rw [h.cases_nil]; exact .inl ⟨rfl, rfl⟩
  | p :: r, _, h => by
    obtain ⟨v, s, rfl, h1, h2⟩ := h.uncons
    by_cases e : p.1 = k
    · right
      refine ⟨p.2, v, ?_, valV_pos e, h1⟩
      unfold getA
      rw [List.find?_cons]
      simp [e]
    · rw [valV_neg (p := (p.1, v)) e]
      have e2 : getA (p :: r) k = getA r k := by
        unfold getA
        rw [List.find?_cons]
        simp [e]
      rw [e2]
      exact RepKV.get h2
theorem RepKV.repl {k : κ} {d : D} {v : V} (r : RepV K H ι d v) : ∀ {ds : List (κ × D)} {vs : List (κ × V)}, RepKV K H ι ds vs → RepKV K H ι (ds.map fun kv => if kv.1 = k then (kv.1, d) else kv) (vs.map fun kv => if kv.1 = k then (kv.1, v) else kv)
  | [], _, h => by rw [h.cases_nil]; exact RepKV.nil
  | p :: q, _, h => by
    obtain ⟨u, s, rfl, h1, h2⟩ := h.uncons
    rw [List.map_cons, List.map_cons]
    by_cases e : p.1 = k
    · rw [if_pos e, if_pos (show (p.1, u).1 = k from e)]
      exact RepKV.cons r (RepKV.repl r h2)
    · rw [if_neg e, if_neg (show ¬ (p.1, u).1 = k from e)]
      exact RepKV.cons h1 (RepKV.repl r h2)
theorem RepKV.put {k : κ} {d : D} {v : V} (h : RepKV K H ι ds vs) (r : RepV K H ι d v) : RepKV K H ι (putA ds k d) (putK vs k v) := by
  unfold putA putK
  rw [h.any]
  split
  · exact RepKV.repl r h
  · exact h.app (RepKV.cons r RepKV.nil)
theorem RepKV.drop {k : κ} : ∀ {ds : List (κ × D)} {vs : List (κ × V)}, RepKV K H ι ds vs → RepKV K H ι (dropA ds k) (dropK vs k)
  | [], _, h => by rw [h.cases_nil]; exact RepKV.nil
  | p :: q, _, h => by
    obtain ⟨u, s, rfl, h1, h2⟩ := h.uncons
    unfold dropA dropK
    rw [List.filter_cons, List.filter_cons]
    have ih := RepKV.drop (k := k) h2
    unfold dropA dropK at ih
    by_cases e : p.1 = k
    · simp only [e, ne_eq, not_true_eq_false, decide_false, Bool.false_eq_true, if_false]
      exact ih
    · simp only [e, ne_eq, not_false_eq_true, decide_true, if_true]
      exact RepKV.cons h1 ih
theorem RepKV.look {k : Str} : ∀ {ds : List (Str × D)} {vs : List (Str × V)}, RepKV K H ι ds vs → (ds.lookup k = none ∧ vs.lookup k = none) ∨ ∃ d v, ds.lookup k = some d ∧ vs.lookup k = some v ∧ RepV K H ι d v
  | [], _, h => by rw [h.cases_nil]; exact .inl ⟨rfl, rfl⟩
  | p :: r, _, h => by
    obtain ⟨v, s, rfl, h1, h2⟩ := h.uncons
    obtain ⟨a, d⟩ := p
    rw [List.lookup_cons, List.lookup_cons]
    cases (k == (a, d).1) with
    | true => exact .inr ⟨_, _, rfl, rfl, h1⟩
    | false => exact RepKV.look h2
end
end WW


set_option Elab.async false
set_option linter.all false
set_option maxRecDepth 100000
set_option maxHeartbeats 4000000
set_option autoImplicit false
namespace WW
open PySem PySem.Spec PyProof.Rows L2

/-! ### values: operators, comparisons, truth, subscripts, calls -/
/-! data of any depth, read through the store -/
mutual
inductive DpD (S : Sto) : D → PyData → Prop
  | non : DpD S .non .none
  | bl (b : Bool) : DpD S (.bl b) (.bool b)
  | int (i : Int) : DpD S (.int i) (.int i)
  | str (x : Str) : DpD S (.str x) (.str x)
  | lst {n : Nat} {xs : List D} {ds : List PyData} : S[n]? = some (.lst xs) → DpAllD S xs ds → DpD S (.ref n) (.list ds)
  | fro {xs : List D} {ds : List PyData} : DpAllD S xs ds → DpD S (.fro xs) (.list ds)
  | tup {xs : List D} {ds : List PyData} : DpAllD S xs ds → DpD S (.tup xs) (.tuple ds)
inductive DpAllD (S : Sto) : List D → List PyData → Prop
  | nil : DpAllD S [] []
  | cons {v : D} {vs : List D} {d : PyData} {ds : List PyData} : DpD S v d → DpAllD S vs ds → DpAllD S (v :: vs) (d :: ds)
end
section
variable {K : KF} {H : Hp} {ι : List Addr} {S : Sto}
mutual
theorem DpD.dp (R : RepS K H ι S) : ∀ (p : PyData) (d : D) (v : V), DpD S d p → RepV K H ι d v → Dp K.K H v p
  | .none, _, _, h, r => by cases h; cases r; exact .non
  | .bool b, _, _, h, r => by cases h; cases r; exact .bl b
  | .int i, _, _, h, r => by cases h; cases r; exact .int i
  | .str x, _, _, h, r => by cases h; cases r; exact .str x
  | .list ps, _, _, h, r => by
    cases h with
    | lst e ha =>
      obtain ⟨a, xs, rfl, _, q1, q2⟩ := R.list r e
      exact .lst (.inl (.inl q1)) (DpAllD.dp R ps _ xs ha q2)
    | fro ha =>
      obtain ⟨a, xs, rfl, q1, q2⟩ := r
      exact .lst q1.sq (DpAllD.dp R ps _ xs ha q2)
  | .tuple ps, _, _, h, r => by
    cases h with
    | tup ha =>
      obtain ⟨a, xs, rfl, q1, q2⟩ := r
      exact .tup (.inl (.inl q1)) (DpAllD.dp R ps _ xs ha q2)
  | .dict _, _, _, h, _ => by cases h
theorem DpAllD.dp (R : RepS K H ι S) : ∀ (ps : List PyData) (ds : List D) (xs : List V), DpAllD S ds ps → RepVs K H ι ds xs → DpAll K.K H xs ps
  | [], _, _, h, r => by cases h; cases r; exact .nil
  | p :: ps, _, _, h, r => by
    cases h with
    | cons h1 h2 =>
      obtain ⟨x, t, rfl, r1, r2⟩ := r
      exact .cons (DpD.dp R p _ x h1 r1) (DpAllD.dp R ps _ t h2 r2)
end
end

/-- where a class stands, by the module's names -/
def clOf (mg : Str → Option Value) (x : Str) : Addr := match mg x with
  | some (.ref C) => C
  | _ => 0
def kf (X : Cx) : KF := ⟨X.K, clOf X.mg⟩
/-- what a value-level operation hands back -/
def Ok1 (K : KF) (H : Hp) (ι : List Addr) (Q : Q1) (QV : VK) : Prop := ∀ d S', Q d S' → ∀ v H' ι', Tr H ι H' ι' → RepS K H' ι' S' → RepV K H' ι' d v → QV v H'
section
variable {K : KF} {H : Hp} {ι : List Addr} {S : Sto} {Q : Q1} {QV : VK}
theorem Ok1.here (h : Ok1 K H ι Q QV) (R : RepS K H ι S) {d : D} {v : V} (r : RepV K H ι d v) (q : Q d S) : QV v H := h d S q v H ι (Tr.refl _ _) R r
theorem Ok1.newL (h : Ok1 K H ι Q QV) (R : RepS K H ι S) {ds : List D} {xs : List V} (r : RepVs K H ι ds xs) (q : Q (.ref S.length) (S ++ [.lst ds])) : ∀ p, H p = none → QV (.ref p) (upd H p (.lst xs)) := fun p hp =>
  h _ _ q _ _ _ (Tr.alloc R hp) (RepS.alloc R hp r) (RepV.new R)
theorem Ok1.newT (h : Ok1 K H ι Q QV) (R : RepS K H ι S) {ds : List D} {xs : List V} (r : RepVs K H ι ds xs) (q : Q (.tup ds) S) : ∀ p, H p = none → QV (.ref p) (upd H p (.tup xs)) := fun p hp =>
  h _ _ q _ _ _ (Tr.new R hp) (RepS.new R hp) ⟨p, xs, rfl, upd_same, RepVs.tr R (Tr.new R hp) _ _ r⟩
end
abbrev OpD := D → D → Sto → Q1 → Prop
structure OpS (X : Cx) (f : Value → Value → Sem Value) (o : OpD) : Prop where
  mono : ∀ x y S (Q Q' : Q1), (∀ d S', Q d S' → Q' d S') → o x y S Q → o x y S Q'
  rd : ∃ r : R2, OpR X f r ∧ ∀ x y S Q vx vy H ι QV, RepS (kf X) H ι S → RepV (kf X) H ι x vx → RepV (kf X) H ι y vy → o x y S Q → Ok1 (kf X) H ι Q QV → r vx vy H QV

def opAdd : OpD
  | .int i, .int j, S, Q => Q (.int (i + j)) S
  | .str s, .str t, S, Q => s.length + t.length ≤ sizeLine ∧ Q (.str (s ++ t)) S
  | .tup xs, .tup ys, S, Q => xs.length + ys.length ≤ sizeLine ∧ Q (.tup (xs ++ ys)) S
  | .ref m, .ref n, S, Q => ∃ xs ys, S[m]? = some (.lst xs) ∧ S[n]? = some (.lst ys) ∧ xs.length + ys.length ≤ sizeLine ∧ Q (.ref S.length) (S ++ [.lst (xs ++ ys)])
  | _, _, _, _ => False
def opSub : OpD
  | .int i, .int j, S, Q => Q (.int (i - j)) S
  | _, _, _, _ => False
def opMul : OpD
  | .int i, .int j, S, Q => (CMul i j ∨ CMulW i j) ∧ Q (.int (i * j)) S
  | _, _, _, _ => False
def opDiv : OpD
  | .int i, .int j, S, Q => CDivW i j ∧ Q (.int (i / j)) S
  | _, _, _, _ => False
def opMod : OpD
  | .int i, .int j, S, Q => 0 < j ∧ Q (.int (i % j)) S
  | _, _, _, _ => False
def opPow : OpD
  | .int i, .int j, S, Q => CPow i j ∧ Q (.int (i ^ j.toNat)) S
  | _, _, _, _ => False
def opShl : OpD
  | .int i, .int j, S, Q => CShl i j ∧ Q (.int (i * 2 ^ j.toNat)) S
  | _, _, _, _ => False
def opShr : OpD
  | .int i, .int j, S, Q => 0 ≤ j ∧ Q (.int (i / 2 ^ j.toNat)) S
  | _, _, _, _ => False
def opAnd : OpD
  | .int i, .int j, S, Q => Q (.int (Builtin.bitAnd i j)) S
  | _, _, _, _ => False
def opOr : OpD
  | .int i, .int j, S, Q => Q (.int (Builtin.bitOr i j)) S
  | _, _, _, _ => False
def opXor : OpD
  | .int i, .int j, S, Q => Q (.int (Builtin.bitXor i j)) S
  | _, _, _, _ => False
def opD : Operator → OpD
  | .Add => opAdd
  | .Sub => opSub
  | .Mult => opMul
  | .FloorDiv => opDiv
  | .Mod => opMod
  | .Pow => opPow
  | .LShift => opShl
  | .RShift => opShr
  | .BitAnd => opAnd
  | .BitOr => opOr
  | .BitXor => opXor
  | _ => fun _ _ _ _ => False
section
variable {X : Cx}
theorem opS_int {f : Value → Value → Sem Value} {C : Int → Int → Prop} {g : Int → Int → Int} {o : OpD} (hr : OpR X f (rI C fun i j => .int (g i j)))
    (e : ∀ i j S Q, o (.int i) (.int j) S Q = (C i j ∧ Q (.int (g i j)) S)) (n : ∀ x y S Q, o x y S Q → ∃ i j, x = .int i ∧ y = .int j) : OpS X f o where
  mono := fun x y S Q Q' h q => by
    obtain ⟨i, j, rfl, rfl⟩ := n x y S Q q
    rw [e] at q ⊢
    exact ⟨q.1, h _ _ q.2⟩
  rd := ⟨_, hr, fun x y S Q vx vy H ι QV R rx ry q k => by
    obtain ⟨i, j, rfl, rfl⟩ := n x y S Q q
    rw [e] at q
    cases rx
    cases ry
    exact ⟨i, j, rfl, rfl, q.1, k.here R (d := .int _) rfl q.2⟩⟩
theorem opS_int0 {f : Value → Value → Sem Value} {g : Int → Int → Int} {o : OpD} (hr : OpR X f (rI0 fun i j => .int (g i j)))
    (e : ∀ i j S Q, o (.int i) (.int j) S Q = Q (.int (g i j)) S) (n : ∀ x y S Q, o x y S Q → ∃ i j, x = .int i ∧ y = .int j) : OpS X f o where
  mono := fun x y S Q Q' h q => by
    obtain ⟨i, j, rfl, rfl⟩ := n x y S Q q
    rw [e] at q ⊢
    exact h _ _ q
  rd := ⟨_, hr, fun x y S Q vx vy H ι QV R rx ry q k => by
    obtain ⟨i, j, rfl, rfl⟩ := n x y S Q q
    rw [e] at q
    cases rx
    cases ry
    exact ⟨i, j, rfl, rfl, k.here R (d := .int _) rfl q⟩⟩
theorem OpR.weak {f : Value → Value → Sem Value} {r r' : R2} (h : OpR X f r) (w : ∀ x y H Q, r' x y H Q → r x y H Q) : OpR X f r' := fun pins s σ H x y v u Q I rx ry q => h pins s σ H x y v u Q I rx ry (w _ _ _ _ q)
theorem opMul_r : OpR X (binaryOp .Mult) (rI (fun i j => CMul i j ∨ CMulW i j) fun i j => .int (i * j)) := OpR.weak (op_mul.or op_mulW) fun x y H Q ⟨i, j, e1, e2, c, q⟩ => by
  rcases c with c | c
  · exact .inl ⟨i, j, e1, e2, c, q⟩
  · exact .inr ⟨i, j, e1, e2, c, q⟩
theorem opAdd_S : OpS X (binaryOp .Add) opAdd where
  mono := fun x y S Q Q' h q => by
    cases x <;> cases y <;> try exact q
    · exact h _ _ q
    · exact ⟨q.1, h _ _ q.2⟩
    · exact ⟨q.1, h _ _ q.2⟩
    · obtain ⟨xs, ys, h1, h2, h3, h4⟩ := q
      exact ⟨xs, ys, h1, h2, h3, h _ _ h4⟩
  rd := ⟨_, op_add.or (op_add_str.or (op_catA.or op_cat)), fun x y S Q vx vy H ι QV R rx ry q k => by
    cases x <;> cases y <;> try exact q.elim
    · cases rx
      cases ry
      exact .inl ⟨_, _, rfl, rfl, k.here R (d := .int _) rfl q⟩
    · cases rx
      cases ry
      exact .inr (.inl ⟨_, _, rfl, rfl, q.1, k.here R (d := .str _) rfl q.2⟩)
    · rename_i ds es
      obtain ⟨a, xs, rfl, hx, qx⟩ := rx
      obtain ⟨b, ys, rfl, hy, qy⟩ := ry
      refine .inr (.inr (.inl ⟨a, b, xs, ys, rfl, rfl, .inl (.inl hx), .inl (.inl hy), ?_, fun e => ?_, fun _ e => ?_, fun _ _ => ?_⟩))
      · rw [← qx.length, ← qy.length]; exact q.1
      · subst e
        have e1 : ds = [] := List.eq_nil_of_length_eq_zero (by rw [qx.length]; rfl)
        subst e1
        exact k.here R (d := .tup es) ⟨b, ys, rfl, hy, qy⟩ q.2
      · subst e
        have e1 : es = [] := List.eq_nil_of_length_eq_zero (by rw [qy.length]; rfl)
        subst e1
        have q2 := q.2
        rw [List.append_nil] at q2
        exact k.here R (d := .tup ds) ⟨a, xs, rfl, hx, qx⟩ q2
      · exact k.newT R (RepVs.app qx qy) q.2
    · obtain ⟨xs, ys, h1, h2, h3, h4⟩ := q
      obtain ⟨a, vs, rfl, _, e1, r1⟩ := R.list rx h1
      obtain ⟨b, ws, rfl, _, e2, r2⟩ := R.list ry h2
      exact .inr (.inr (.inr ⟨a, b, vs, ws, rfl, rfl, e1, e2, by rw [← r1.length, ← r2.length]; exact h3, k.newL R (RepVs.app r1 r2) h4⟩))⟩
theorem op_none {f : Value → Value → Sem Value} : OpR X f (fun _ _ _ _ => False) := fun _ _ _ _ _ _ _ _ _ _ _ _ q => q.elim
theorem opD_S : ∀ op : Operator, OpS X (binaryOp op) (opD op)
  | .Add => opAdd_S
  | .Sub => opS_int0 op_sub (fun _ _ _ _ => rfl) fun x y S Q q => by cases x <;> cases y <;> first | exact ⟨_, _, rfl, rfl⟩ | exact q.elim
  | .Mult => opS_int opMul_r (fun _ _ _ _ => rfl) fun x y S Q q => by cases x <;> cases y <;> first | exact ⟨_, _, rfl, rfl⟩ | exact q.elim
  | .FloorDiv => opS_int op_fdivW (fun _ _ _ _ => rfl) fun x y S Q q => by cases x <;> cases y <;> first | exact ⟨_, _, rfl, rfl⟩ | exact q.elim
  | .Mod => opS_int op_mod (fun _ _ _ _ => rfl) fun x y S Q q => by cases x <;> cases y <;> first | exact ⟨_, _, rfl, rfl⟩ | exact q.elim
  | .Pow => opS_int op_pow (fun _ _ _ _ => rfl) fun x y S Q q => by cases x <;> cases y <;> first | exact ⟨_, _, rfl, rfl⟩ | exact q.elim
  | .LShift => opS_int op_shlW (fun _ _ _ _ => rfl) fun x y S Q q => by cases x <;> cases y <;> first | exact ⟨_, _, rfl, rfl⟩ | exact q.elim
  | .RShift => opS_int op_shr (fun _ _ _ _ => rfl) fun x y S Q q => by cases x <;> cases y <;> first | exact ⟨_, _, rfl, rfl⟩ | exact q.elim
  | .BitAnd => opS_int0 op_and (fun _ _ _ _ => rfl) fun x y S Q q => by cases x <;> cases y <;> first | exact ⟨_, _, rfl, rfl⟩ | exact q.elim
  | .BitOr => opS_int0 op_or (fun _ _ _ _ => rfl) fun x y S Q q => by cases x <;> cases y <;> first | exact ⟨_, _, rfl, rfl⟩ | exact q.elim
  | .BitXor => opS_int0 op_xor (fun _ _ _ _ => rfl) fun x y S Q q => by cases x <;> cases y <;> first | exact ⟨_, _, rfl, rfl⟩ | exact q.elim
  | .Div => ⟨fun _ _ _ _ _ _ q => q.elim, _, op_none, fun _ _ _ _ _ _ _ _ _ _ _ _ q => q.elim⟩
  | .MatMult => ⟨fun _ _ _ _ _ _ q => q.elim, _, op_none, fun _ _ _ _ _ _ _ _ _ _ _ _ q => q.elim⟩
end
end WW


set_option Elab.async false
set_option linter.all false
set_option maxRecDepth 100000
set_option maxHeartbeats 4000000
set_option autoImplicit false
namespace WW
open PySem PySem.Spec PyProof.Rows L2

def sg : Bool → Bool → Bool
  | false, b => b
  | true, b => !b
def scalD : D → D → Option Bool
  | .non, .non => some true
  | .int i, .int j => some (decide (i = j))
  | .bl i, .bl j => some (decide (i = j))
  | .str i, .str j => some (decide (i = j))
  | .non, .int _ => some false
  | .int _, .non => some false
  | .non, .bl _ => some false
  | .bl _, .non => some false
  | .non, .str _ => some false
  | .str _, .non => some false
  | .int _, .str _ => some false
  | .str _, .int _ => some false
  | _, _ => none
def cmpEq (neg : Bool) : OpD := fun x y S Q => match scalD x y with
  | some b => Q (.bl (sg neg b)) S
  | none => ∃ p q, DpD S x p ∧ DpD S y q ∧ SeqAt.shaped p = true ∧ SeqAt.shaped q = true ∧ Q (.bl (sg neg (PyData.eqv p q))) S
def cmpII (f : Int → Int → Bool) : OpD
  | .int i, .int j, S, Q => Q (.bl (f i j)) S
  | _, _, _, _ => False
def flatD : D → Bool
  | .non => true
  | .bl _ => true
  | .int _ => true
  | .str _ => true
  | _ => false
def eqF : D → D → Bool
  | .non, .non => true
  | .bl a, .bl b => a == b
  | .bl a, .int b => (if a then 1 else 0) == b
  | .int a, .bl b => a == (if b then 1 else 0)
  | .int a, .int b => a == b
  | .str a, .str b => a == b
  | _, _ => false
def inF (x : D) (xs : List D) : Bool := xs.any fun y => eqF y x
/-- keys of dicts: ints and texts; tuples of them -/
def keyD : D → Option Key
  | .int i => some (.inl i)
  | .str s => some (.inr s)
  | _ => none
def keysD : List D → Option (List Key)
  | [] => some []
  | d :: r => match keyD d, keysD r with
    | some k, some ks => some (k :: ks)
    | _, _ => none
def keyT : D → Option (List Key)
  | .tup ds => keysD ds
  | _ => none
/-- what the dict at n holds at a key -/
def dGet (n : Nat) (y : D) (S : Sto) (Q : Option D → Prop) : Prop :=
  (∃ fz kvs k, S[n]? = some (.dK fz kvs) ∧ keyD y = some k ∧ Q (getA kvs k)) ∨ ∃ fz kvs k, S[n]? = some (.dT fz kvs) ∧ keyT y = some k ∧ Q (getA kvs k)
theorem dGet_mono {n : Nat} {y : D} {S : Sto} {Q Q' : Option D → Prop} (h : ∀ o, Q o → Q' o) (q : dGet n y S Q) : dGet n y S Q' := by
  rcases q with ⟨fz, kvs, k, a, b, c⟩ | ⟨fz, kvs, k, a, b, c⟩
  · exact .inl ⟨fz, kvs, k, a, b, h _ c⟩
  · exact .inr ⟨fz, kvs, k, a, b, h _ c⟩
def cmpIn (neg : Bool) : OpD
  | x, .tup ds, S, Q => flatD x = true ∧ ds.all flatD = true ∧ Q (.bl (sg neg (inF x ds))) S
  | x, .ref n, S, Q => (∃ ds, S[n]? = some (.lst ds) ∧ flatD x = true ∧ ds.all flatD = true ∧ Q (.bl (sg neg (inF x ds))) S) ∨
    (∃ p ps, DpD S x p ∧ DpD S (.ref n) (.list ps) ∧ SeqAt.shaped p = true ∧ SeqAt.shaped (.list ps) = true ∧ Q (.bl (sg neg (ps.any fun z => PyData.eqv z p))) S) ∨
    dGet n x S fun o => Q (.bl (sg neg o.isSome)) S
  | _, _, _, _ => False
def isNon : D → Bool
  | .non => true
  | _ => false
def cmpIs (neg : Bool) : OpD
  | x, .non, S, Q => Q (.bl (sg neg (isNon x))) S
  | _, _, _, _ => False
def cmpD : CmpOp → OpD
  | .Eq => cmpEq false
  | .NotEq => cmpEq true
  | .Lt => cmpII fun i j => decide (i < j)
  | .LtE => cmpII fun i j => decide (i ≤ j)
  | .Gt => cmpII fun i j => decide (j < i)
  | .GtE => cmpII fun i j => decide (j ≤ i)
  | .Is => cmpIs false
  | .IsNot => cmpIs true
  | .In => cmpIn false
  | .NotIn => cmpIn true
section
variable {X : Cx} {K : KF} {H : Hp} {ι : List Addr} {S : Sto}
theorem eqF_V : ∀ {x y : D} {v w : V}, RepV K H ι x v → RepV K H ι y w → flatD x = true → flatD y = true → eqV v w = eqF x y := fun {x y v w} rx ry fx fy => by
  cases x <;> cases fx <;> cases y <;> cases fy <;> cases rx <;> cases ry <;> rfl
theorem flat_V {x : D} {v : V} (r : RepV K H ι x v) (f : flatD x = true) : flatV v = true := by
  cases x <;> cases f <;> cases r <;> rfl
theorem flat_Vs : ∀ {ds : List D} {vs : List V}, RepVs K H ι ds vs → ds.all flatD = true → vs.all flatV = true
  | [], _, h, _ => by cases h; rfl
  | d :: ds, _, h, f => by
    obtain ⟨x, r, rfl, h2, h3⟩ := h
    rw [List.all_cons, Bool.and_eq_true_iff] at f ⊢
    exact ⟨flat_V h2 f.1, flat_Vs h3 f.2⟩
theorem inF_V : ∀ {ds : List D} {vs : List V} {x : D} {v : V}, RepVs K H ι ds vs → RepV K H ι x v → flatD x = true → ds.all flatD = true → inV v vs = inF x ds
  | [], _, _, _, h, _, _, _ => by cases h; rfl
  | d :: ds, _, x, v, h, rx, fx, f => by
    obtain ⟨y, r, rfl, h2, h3⟩ := h
    rw [List.all_cons, Bool.and_eq_true_iff] at f
    unfold inV inF
    rw [List.any_cons, List.any_cons, eqF_V h2 rx f.1 fx]
    have := inF_V h3 rx fx f.2
    unfold inV inF at this
    rw [this]
theorem sg_if (neg b : Bool) : (if neg = true then !b else b) = sg neg b := by cases neg <;> rfl
theorem scal_V {x y : D} {v w : V} {b : Bool} (rx : RepV K H ι x v) (ry : RepV K H ι y w) (e : scalD x y = some b) : scal v w = true ∧ decide (v = w) = b := by
  cases x <;> cases y <;> simp only [scalD, reduceCtorEq, Option.some.injEq] at e
  all_goals (cases rx; cases ry; refine ⟨rfl, ?_⟩; rw [← e]; simp)
theorem cmpEq_mono (neg : Bool) : ∀ x y S (Q Q' : Q1), (∀ d S', Q d S' → Q' d S') → cmpEq neg x y S Q → cmpEq neg x y S Q' := fun x y S Q Q' h q => by
  unfold cmpEq at q ⊢
  split at q
  · exact h _ _ q
  · obtain ⟨p, r, h1, h2, h3, h4, h5⟩ := q
    exact ⟨p, r, h1, h2, h3, h4, h _ _ h5⟩
theorem opEq_S (hu : X.A.units + 64 < cLine) : OpS X (compareOp .Eq) (cmpEq false) where
  mono := cmpEq_mono false
  rd := ⟨_, op_eq.or (op_eqD hu), fun x y S Q vx vy H ι QV R rx ry q k => by
    unfold cmpEq at q
    split at q
    · rename_i b e
      obtain ⟨h1, h2⟩ := scal_V rx ry e
      exact .inl ⟨h1, by rw [h2]; exact k.here R (d := .bl _) rfl q⟩
    · obtain ⟨p, r, h1, h2, h3, h4, h5⟩ := q
      exact .inr ⟨p, r, DpD.dp R p _ _ h1 rx, DpD.dp R r _ _ h2 ry, h3, h4, k.here R (d := .bl _) rfl h5⟩⟩
theorem opNe_S (hu : X.A.units + 64 < cLine) : OpS X (compareOp .NotEq) (cmpEq true) where
  mono := cmpEq_mono true
  rd := ⟨_, op_ne.or (op_neD hu), fun x y S Q vx vy H ι QV R rx ry q k => by
    unfold cmpEq at q
    split at q
    · rename_i b e
      obtain ⟨h1, h2⟩ := scal_V rx ry e
      exact .inl ⟨h1, by rw [h2]; exact k.here R (d := .bl _) rfl q⟩
    · obtain ⟨p, r, h1, h2, h3, h4, h5⟩ := q
      exact .inr ⟨p, r, DpD.dp R p _ _ h1 rx, DpD.dp R r _ _ h2 ry, h3, h4, k.here R (d := .bl _) rfl h5⟩⟩
theorem opII_S {op : CmpOp} {f : Int → Int → Bool} (h : OpR X (compareOp op) (rI0 fun i j => .bl (f i j))) : OpS X (compareOp op) (cmpII f) where
  mono := fun x y S Q Q' h q => by cases x <;> cases y <;> first | exact h _ _ q | exact q
  rd := ⟨_, h, fun x y S Q vx vy H ι QV R rx ry q k => by
    cases x <;> cases y <;> try exact q.elim
    cases rx
    cases ry
    exact ⟨_, _, rfl, rfl, k.here R (d := .bl _) rfl q⟩⟩
theorem keyD_V {x : D} {v : V} {k : Key} (r : RepV K H ι x v) (e : keyD x = some k) : v = kV k := by
  cases x <;> cases e <;> cases r <;> rfl
theorem keysD_V : ∀ {ds : List D} {vs : List V} {ks : List Key}, RepVs K H ι ds vs → keysD ds = some ks → vs = ks.map kV
  | [], _, _, h, e => by cases h; cases e; rfl
  | d :: ds, _, ks, h, e => by
    obtain ⟨x, r, rfl, h2, h3⟩ := h
    unfold keysD at e
    split at e
    · rename_i k ks' e1 e2
      cases e
      rw [keyD_V h2 e1, keysD_V h3 e2]
      rfl
    · cases e
theorem keyT_V {x : D} {v : V} {ks : List Key} (r : RepV K H ι x v) (e : keyT x = some ks) : ∃ b, v = .ref b ∧ H b = some (.tup (ks.map kV)) := by
  cases x <;> try (cases e)
  obtain ⟨a, xs, rfl, h1, h2⟩ := r
  exact ⟨a, rfl, by rw [h1, keysD_V h2 e]⟩
theorem FzIs.rd {fz : Bool} {a : Addr} {o u : HO} (h : FzIs fz o u) (e : H a = some o) : Rd H a u := by
  cases fz with
  | false => cases (show o = u from h); exact .inl e
  | true => obtain ⟨ob, rfl⟩ := h; exact .inr ⟨ob, e⟩
/-- a look into a dict, over the machine's heap -/
theorem dGet_V {n : Nat} {y : D} {vy vx : V} {Q : Option D → Prop} (R : RepS K H ι S) (rx : RepV K H ι (.ref n) vx) (ry : RepV K H ι y vy) (q : dGet n y S Q) :
    ∃ a o r, vx = .ref a ∧ DGet H a vy r ∧ Q o ∧ ((o = none ∧ r = none) ∨ ∃ d v, o = some d ∧ r = some v ∧ RepV K H ι d v) := by
  rcases q with ⟨fz, kvs, k, e1, e2, q⟩ | ⟨fz, kvs, k, e1, e2, q⟩
  · obtain ⟨a, o, rfl, h1, h2, xs, h3, h4⟩ := R.obj rx e1
    refine ⟨a, _, valV xs k, rfl, .inl ⟨xs, k, h3.rd h2, keyD_V ry e2, rfl⟩, q, ?_⟩
    rcases h4.get (k := k) with ⟨g1, g2⟩ | ⟨d, v, g1, g2, g3⟩
    · exact .inl ⟨g1, g2⟩
    · exact .inr ⟨d, v, g1, g2, g3⟩
  · obtain ⟨a, o, rfl, h1, h2, xs, h3, h4⟩ := R.obj rx e1
    obtain ⟨b, h5, h6⟩ := keyT_V ry e2
    refine ⟨a, _, valV xs k, rfl, .inr ⟨xs, k, b, h3.rd h2, h5, h6, rfl⟩, q, ?_⟩
    rcases h4.get (k := k) with ⟨g1, g2⟩ | ⟨d, v, g1, g2, g3⟩
    · exact .inl ⟨g1, g2⟩
    · exact .inr ⟨d, v, g1, g2, g3⟩
def rDInR (neg : Bool) : R2 := fun x y H Q => ∃ a o, y = .ref a ∧ DGet H a x o ∧ Q (.bl (sg neg o.isSome)) H
theorem op_dinR (hu : X.A.units + 1 < cLine) : OpR X (compareOp .In) (rDInR false) := by
  intro pins s σ H x y v u Q I rx ry ⟨a, o, ey, g, q⟩
  subst ey
  obtain rfl : u = Value.ref a := ry
  exact d_in hu I g rx fun s3 I3 => ⟨.bl o.isSome, H, I3, rfl, q⟩
theorem op_dnotInR (hu : X.A.units + 1 < cLine) : OpR X (compareOp .NotIn) (rDInR true) := by
  intro pins s σ H x y v u Q I rx ry ⟨a, o, ey, g, q⟩
  subst ey
  obtain rfl : u = Value.ref a := ry
  exact d_notIn hu I g rx fun s3 I3 => ⟨.bl (!o.isSome), H, I3, rfl, q⟩
def rInDn (K : PySem.W.Frag) (neg : Bool) : R2 := fun x y H Q => ∃ d ds, Dp K H x d ∧ Dp K H y (.list ds) ∧ SeqAt.shaped d = true ∧ SeqAt.shaped (.list ds) = true ∧ Q (.bl (sg neg (ds.any fun z => PyData.eqv z d))) H
theorem opIn_S {op : CmpOp} {neg : Bool} (h : OpR X (compareOp op) (rIn X.K neg)) (hd : OpR X (compareOp op) (rInDn X.K neg)) (hk : OpR X (compareOp op) (rDInR neg)) : OpS X (compareOp op) (cmpIn neg) where
  mono := fun x y S Q Q' h q => by
    cases y <;> try exact q.elim
    · exact ⟨q.1, q.2.1, h _ _ q.2.2⟩
    · rcases q with ⟨ds, h1, h2, h3, h4⟩ | ⟨p, ps, h1, h2, h3, h4, h5⟩ | q
      · exact .inl ⟨ds, h1, h2, h3, h _ _ h4⟩
      · exact .inr (.inl ⟨p, ps, h1, h2, h3, h4, h _ _ h5⟩)
      · exact .inr (.inr (dGet_mono (fun o z => h _ _ z) q))
  rd := ⟨_, h.or (hd.or hk), fun x y S Q vx vy H ι QV R rx ry q k => by
    cases y <;> try exact q.elim
    · obtain ⟨a, xs, rfl, hx, r⟩ := ry
      obtain ⟨q1, q2, q3⟩ := q
      refine .inl ⟨a, xs, rfl, .inr (.inl (.inl hx)), flat_V rx q1, flat_Vs r q2, ?_⟩
      rw [inF_V r rx q1 q2, sg_if]
      exact k.here R (d := .bl _) rfl q3
    · rcases q with ⟨ds, h1, q1, q2, q3⟩ | ⟨p, ps, h1, h2, h3, h4, h5⟩ | q
      · obtain ⟨a, xs, rfl, _, hx, r⟩ := R.list ry h1
        refine .inl ⟨a, xs, rfl, .inl (.inl (.inl hx)), flat_V rx q1, flat_Vs r q2, ?_⟩
        rw [inF_V r rx q1 q2, sg_if]
        exact k.here R (d := .bl _) rfl q3
      · exact .inr (.inl ⟨p, ps, DpD.dp R p _ _ h1 rx, DpD.dp R _ _ _ h2 ry, h3, h4, k.here R (d := .bl _) rfl h5⟩)
      · obtain ⟨a, o, r, rfl, g, q, ho⟩ := dGet_V R ry rx q
        refine .inr (.inr ⟨a, r, rfl, g, ?_⟩)
        have e : o.isSome = r.isSome := by
          rcases ho with ⟨rfl, rfl⟩ | ⟨d, v, rfl, rfl, _⟩ <;> rfl
        rw [← e]
        exact k.here R (d := .bl _) rfl q⟩
theorem non_V {x : D} {v : V} (r : RepV K H ι x v) : decide (v = .non) = isNon x := by
  cases x with
  | non => cases r; rfl
  | bl b => cases r; rfl
  | int i => cases r; rfl
  | str s => cases r; rfl
  | tup ds => obtain ⟨a, xs, rfl, _⟩ := r; rfl
  | fro ds => obtain ⟨a, xs, rfl, _⟩ := r; rfl
  | ref n => obtain ⟨a, _, rfl⟩ := r; rfl
theorem opIs_S : OpS X (compareOp .Is) (cmpIs false) where
  mono := fun x y S Q Q' h q => by cases y <;> first | exact q.elim | exact h _ _ q
  rd := ⟨_, op_isN, fun x y S Q vx vy H ι QV R rx ry q k => by
    cases y <;> try exact q.elim
    cases ry
    refine ⟨rfl, ?_⟩
    rw [non_V rx]
    exact k.here R (d := .bl _) rfl q⟩
theorem opIsNot_S : OpS X (compareOp .IsNot) (cmpIs true) where
  mono := fun x y S Q Q' h q => by cases y <;> first | exact q.elim | exact h _ _ q
  rd := ⟨_, op_notN, fun x y S Q vx vy H ι QV R rx ry q k => by
    cases y <;> try exact q.elim
    cases ry
    refine ⟨rfl, ?_⟩
    rw [non_V rx]
    exact k.here R (d := .bl _) rfl q⟩
theorem cmpD_S (hu : X.A.units + 65 < cLine) : ∀ op : CmpOp, OpS X (compareOp op) (cmpD op)
  | .Eq => opEq_S (Nat.lt_of_le_of_lt (Nat.add_le_add_left (by decide) _) hu)
  | .NotEq => opNe_S (Nat.lt_of_le_of_lt (Nat.add_le_add_left (by decide) _) hu)
  | .Lt => opII_S op_lt
  | .LtE => opII_S op_le
  | .Gt => opII_S op_gt
  | .GtE => opII_S op_ge
  | .Is => opIs_S
  | .IsNot => opIsNot_S
  | .In => opIn_S op_in_seq (op_inD hu) (op_dinR (Nat.lt_of_le_of_lt (Nat.add_le_add_left (by decide) _) hu))
  | .NotIn => opIn_S op_notIn_seq (op_notInD hu) (op_dnotInR (Nat.lt_of_le_of_lt (Nat.add_le_add_left (by decide) _) hu))
end

/-! truth -/
def truD : D → Sto → (Bool → Prop) → Prop
  | .non, _, Q => Q false
  | .bl b, _, Q => Q b
  | .int i, _, Q => Q (i != 0)
  | .str s, _, Q => s.length ≤ sizeLine ∧ Q ((s.length : Int) != 0)
  | .tup ds, _, Q => Q (!ds.isEmpty)
  | .fro ds, _, Q => Q (!ds.isEmpty)
  | .ref n, S, Q => (∃ ds, S[n]? = some (.lst ds) ∧ Q (!ds.isEmpty)) ∨ (∃ kvs, S[n]? = some (.dK false kvs) ∧ Q (!kvs.isEmpty))
theorem truD_mono {d : D} {S : Sto} {Q Q' : Bool → Prop} (h : ∀ b, Q b → Q' b) (q : truD d S Q) : truD d S Q' := by
  cases d <;> first
    | exact h _ q
    | exact ⟨q.1, h _ q.2⟩
    | (rcases q with ⟨ds, a, b⟩ | ⟨ds, a, b⟩
       · exact .inl ⟨ds, a, h _ b⟩
       · exact .inr ⟨ds, a, h _ b⟩)
theorem empty_V {K : KF} {H : Hp} {ι : List Addr} {ds : List D} {vs : List V} (r : RepVs K H ι ds vs) : (!vs.isEmpty) = !ds.isEmpty := by
  cases ds with
  | nil => cases r; rfl
  | cons d ds => obtain ⟨x, t, rfl, _⟩ := r; rfl
theorem truD_V {K : KF} {H : Hp} {ι : List Addr} {S : Sto} {d : D} {v : V} {Q : Bool → Prop} (R : RepS K H ι S) (r : RepV K H ι d v) (q : truD d S Q) : ∃ k, TruV K.K v H k ∧ Q k := by
  cases d with
  | non => cases r; exact ⟨_, rfl, q⟩
  | bl b => cases r; exact ⟨_, rfl, q⟩
  | int i => cases r; exact ⟨_, rfl, q⟩
  | str s => cases r; exact ⟨_, ⟨q.1, rfl⟩, q.2⟩
  | tup ds =>
    obtain ⟨a, xs, rfl, hx, rr⟩ := r
    exact ⟨_, .inr (.inl ⟨xs, .inl (.inl hx), rfl⟩), by rw [empty_V rr]; exact q⟩
  | fro ds =>
    obtain ⟨a, xs, rfl, hx, rr⟩ := r
    exact ⟨_, .inl ⟨xs, hx.sq, rfl⟩, by rw [empty_V rr]; exact q⟩
  | ref n =>
    rcases q with ⟨ds, e, q⟩ | ⟨kvs, e, q⟩
    · obtain ⟨a, xs, rfl, _, hx, rr⟩ := R.list r e
      exact ⟨_, .inl ⟨xs, .inl (.inl hx), rfl⟩, by rw [empty_V rr]; exact q⟩
    · obtain ⟨a, o, rfl, _, h2, xs, h3, h4⟩ := R.obj r e
      cases (show o = .dK xs from h3)
      refine ⟨_, .inr (.inr ⟨xs, h2, rfl⟩), ?_⟩
      have e : xs.isEmpty = kvs.isEmpty := by
        have := h4.length
        cases kvs <;> cases xs <;> first | rfl | cases this
      rw [e]
      exact q

/-! subscripts and slices -/
def gv {α : Type} : Option α → (α → Prop) → Prop
  | some d, Q => Q d
  | none, _ => False
theorem gv_iff {α : Type} {o : Option α} {Q : α → Prop} : gv o Q ↔ ∃ d, o = some d ∧ Q d := by
  cases o with
  | none => exact ⟨fun h => h.elim, fun ⟨_, h, _⟩ => nomatch h⟩
  | some d => exact ⟨fun h => ⟨d, rfl, h⟩, fun ⟨_, h, q⟩ => by cases h; exact q⟩
def idxD : OpD
  | .tup ds, .int i, S, Q => gv (atI ds i) fun d => Q d S
  | .fro ds, .int i, S, Q => gv (atI ds i) fun d => Q d S
  | .ref n, y, S, Q => (∃ ds i, y = .int i ∧ S[n]? = some (.lst ds) ∧ gv (atI ds i) fun d => Q d S) ∨ dGet n y S fun o => gv o fun d => Q d S
  | .str z, .int i, S, Q => z.length ≤ sizeLine ∧ gv (atI z.cps.toList i) fun c => Q (.str ⟨#[c]⟩) S
  | _, _, _, _ => False
theorem RepVs.atI {K : KF} {H : Hp} {ι : List Addr} {ds : List D} {vs : List V} {i : Int} {d : D} (r : RepVs K H ι ds vs) (h : L2.atI ds i = some d) : ∃ v, L2.atI vs i = some v ∧ RepV K H ι d v := by
  unfold L2.atI at h ⊢
  rw [← r.length]
  cases e : ixN ds.length i with
  | none => rw [e] at h; simp at h
  | some j =>
    rw [e] at h
    exact r.get h
theorem idxD_mono : ∀ x y S (Q Q' : Q1), (∀ d S', Q d S' → Q' d S') → idxD x y S Q → idxD x y S Q' := fun x y S Q Q' h q => by
  unfold idxD at q ⊢
  split at q
  · obtain ⟨d, e, q⟩ := gv_iff.mp q
    exact gv_iff.mpr ⟨d, e, h _ _ q⟩
  · obtain ⟨d, e, q⟩ := gv_iff.mp q
    exact gv_iff.mpr ⟨d, e, h _ _ q⟩
  · rcases q with ⟨ds, i, q0, q1, q2⟩ | q
    · obtain ⟨d, e, q⟩ := gv_iff.mp q2
      exact .inl ⟨ds, i, q0, q1, gv_iff.mpr ⟨d, e, h _ _ q⟩⟩
    · exact .inr (dGet_mono (fun o z => by
        obtain ⟨d, e, q⟩ := gv_iff.mp z
        exact gv_iff.mpr ⟨d, e, h _ _ q⟩) q)
  · obtain ⟨q1, q2⟩ := q
    obtain ⟨d, e, q⟩ := gv_iff.mp q2
    exact ⟨q1, gv_iff.mpr ⟨d, e, h _ _ q⟩⟩
  · exact q.elim
def rIxDct : R2 := fun x y H Q => ∃ a v, x = .ref a ∧ DGet H a y (some v) ∧ Q v H
theorem ix_dct {X : Cx} (hu : X.A.units + 1 < cLine) : IxR X rIxDct := by
  intro value slice pins s σ H x y v u Q I rx ry h hs
  obtain ⟨a, r, rfl, g, q⟩ := h
  obtain rfl : v = Value.ref a := rx
  exact tail_any (dict_typeIs I g) PySem.F.slot_dict_getitem.lookup (d_getItem hu I g ry fun w' s3 I3 rw' => ⟨r, H, I3, rw', q⟩) hs
def rIxA (K : PySem.W.Frag) : R2 := fun x y H Q => rIx K x y H Q ∨ rIxDct x y H Q
theorem idxD_V {K : KF} : ∀ x y S Q vx vy H ι QV, RepS K H ι S → RepV K H ι x vx → RepV K H ι y vy → idxD x y S Q → Ok1 K H ι Q QV → rIxA K.K vx vy H QV := fun x y S Q vx vy H ι QV R rx ry q k => by
  unfold idxD at q
  split at q
  · cases ry
    obtain ⟨a, xs, rfl, hx, rr⟩ := rx
    obtain ⟨d, e, q⟩ := gv_iff.mp q
    obtain ⟨v, e2, rv⟩ := rr.atI e
    exact .inl (.inr (.inl ⟨a, xs, _, v, rfl, rfl, .inl (.inl hx), e2, k.here R rv q⟩))
  · cases ry
    obtain ⟨a, xs, rfl, hx, rr⟩ := rx
    obtain ⟨d, e, q⟩ := gv_iff.mp q
    obtain ⟨v, e2, rv⟩ := rr.atI e
    exact .inl (.inl ⟨a, xs, _, v, rfl, rfl, hx.sq, e2, k.here R rv q⟩)
  · rcases q with ⟨ds, i, rfl, q1, q2⟩ | q
    · cases ry
      obtain ⟨a, xs, rfl, _, hx, rr⟩ := R.list rx q1
      obtain ⟨d, e, q⟩ := gv_iff.mp q2
      obtain ⟨v, e2, rv⟩ := rr.atI e
      exact .inl (.inl ⟨a, xs, _, v, rfl, rfl, .inl (.inl hx), e2, k.here R rv q⟩)
    · obtain ⟨a, o, r, rfl, g, q, ho⟩ := dGet_V R rx ry q
      rcases ho with ⟨rfl, rfl⟩ | ⟨d, v, rfl, rfl, rv⟩
      · exact q.elim
      · exact .inr ⟨a, v, rfl, g, k.here R rv q⟩
  · cases rx
    cases ry
    obtain ⟨q1, q2⟩ := q
    obtain ⟨d, e, q⟩ := gv_iff.mp q2
    exact .inl (.inr (.inr ⟨_, _, d, rfl, rfl, q1, e, k.here R (d := .str _) rfl q⟩))
  · exact q.elim
def cutD (xs : List D) (lo hi : Option Int) : List D := (xs.drop (HT.sIx xs.length 0 lo)).take (HT.sIx xs.length xs.length hi - HT.sIx xs.length 0 lo)
theorem RepVs.cut {K : KF} {H : Hp} {ι : List Addr} {ds : List D} {vs : List V} (r : RepVs K H ι ds vs) (lo hi : Option Int) : RepVs K H ι (cutD ds lo hi) (cutV vs lo hi) := by
  unfold cutD cutV
  rw [← r.length]
  exact RepVs.take _ (RepVs.drop _ r)
def slcD : D → Option Int → Option Int → Sto → Q1 → Prop
  | .tup ds, lo, hi, S, Q => Q (.tup (cutD ds lo hi)) S
  | .fro ds, lo, hi, S, Q => Q (.ref S.length) (S ++ [.lst (cutD ds lo hi)])
  | .ref n, lo, hi, S, Q => ∃ ds, S[n]? = some (.lst ds) ∧ Q (.ref S.length) (S ++ [.lst (cutD ds lo hi)])
  | .str z, lo, hi, S, Q => z.length ≤ sizeLine ∧ Q (.str (cutS z lo hi)) S
  | _, _, _, _, _ => False
theorem slcD_mono {x : D} {lo hi : Option Int} {S : Sto} {Q Q' : Q1} (h : ∀ d S', Q d S' → Q' d S') (q : slcD x lo hi S Q) : slcD x lo hi S Q' := by
  cases x <;> first | exact q.elim | exact ⟨q.1, h _ _ q.2⟩ | exact h _ _ q | exact let ⟨ds, a, b⟩ := q; ⟨ds, a, h _ _ b⟩
theorem cutD_whole {ds : List D} {lo hi : Option Int} (h : HT.sIx ds.length 0 lo = 0 ∧ HT.sIx ds.length ds.length hi = ds.length) : cutD ds lo hi = ds := by
  unfold cutD
  rw [h.1, h.2]
  simp
def rSlc (K : PySem.W.Frag) : V → Option Int → Option Int → Hp → VK → Prop := fun x lo hi H Q => rSlA K x lo hi H Q ∨ rSlL K x lo hi H Q ∨ rSlS x lo hi H Q
theorem slc_r {X : Cx} : SlR X (rSlc X.K) := SlR.or sl_tupA (SlR.or sl_list sl_str)
theorem slcD_V {K : KF} {x : D} {lo hi : Option Int} {S : Sto} {Q : Q1} {vx : V} {H : Hp} {ι : List Addr} {QV : VK} (R : RepS K H ι S) (rx : RepV K H ι x vx) (q : slcD x lo hi S Q) (k : Ok1 K H ι Q QV) : rSlc K.K vx lo hi H QV := by
  cases x <;> try exact q.elim
  · cases rx
    exact .inr (.inr ⟨_, rfl, q.1, k.here R (d := .str _) rfl q.2⟩)
  · rename_i ds
    obtain ⟨a, xs, rfl, hx, rr⟩ := rx
    refine .inl ⟨a, xs, rfl, .inl (.inl hx), fun e => ?_, fun _ => ?_⟩
    · have q' : Q (.tup ds) S := by
        have e2 : cutD ds lo hi = ds := cutD_whole (by rw [rr.length]; exact e)
        have q1 : Q (.tup (cutD ds lo hi)) S := q
        rw [e2] at q1
        exact q1
      exact k.here R (d := .tup ds) ⟨a, xs, rfl, hx, rr⟩ q'
    · exact k.newT R (rr.cut lo hi) q
  · obtain ⟨a, xs, rfl, hx, rr⟩ := rx
    exact .inr (.inl ⟨a, xs, rfl, hx.sq, k.newL R (rr.cut lo hi) q⟩)
  · obtain ⟨ds, e, q⟩ := q
    obtain ⟨a, xs, rfl, _, hx, rr⟩ := R.list rx e
    exact .inr (.inl ⟨a, xs, rfl, .inl (.inl hx), k.newL R (rr.cut lo hi) q⟩)
end WW


set_option Elab.async false
set_option linter.all false
set_option maxRecDepth 100000
set_option maxHeartbeats 4000000
set_option autoImplicit false
namespace WW
open PySem PySem.Spec PyProof.Rows L2

/-! ### expressions -/
def MonoW (w : W) : Prop := ∀ ρ S (Q Q' : Q1), (∀ d S', Q d S' → Q' d S') → w ρ S Q → w ρ S Q'
def MonoT (w : WT) : Prop := ∀ ρ S (Q Q' : Bool → Sto → Prop), (∀ d S', Q d S' → Q' d S') → w ρ S Q → w ρ S Q'
def MonoA (w : WA) : Prop := ∀ ρ S (Q Q' : List D → Sto → Prop), (∀ d S', Q d S' → Q' d S') → w ρ S Q → w ρ S Q'
def tE (K : KF) (Y : WX) (w : W) : TE := fun σ H Q => ∃ ρ ι S, RepE K Y H ι σ ρ ∧ RepS K H ι S ∧ w ρ S fun d S' => ∀ v H' ι', Tr H ι H' ι' → RepS K H' ι' S' → RepV K H' ι' d v → Q v H'
def tT (K : KF) (Y : WX) (w : WT) : TT := fun σ H Q => ∃ ρ ι S, RepE K Y H ι σ ρ ∧ RepS K H ι S ∧ w ρ S fun b S' => ∀ H' ι', Tr H ι H' ι' → RepS K H' ι' S' → Q b H'
def tA (K : KF) (Y : WX) (w : WA) : TA := fun σ H Q => ∃ ρ ι S, RepE K Y H ι σ ρ ∧ RepS K H ι S ∧ w ρ S fun ds S' => ∀ vs H' ι', Tr H ι H' ι' → RepS K H' ι' S' → RepVs K H' ι' ds vs → Q vs H'
structure PEw (X : Cx) (e : Expr) (w : W) : Prop where
  mono : MonoW w
  pe : ∀ Y, Takes X Y → PE X e (tE (kf X) Y w)
structure PTw (X : Cx) (e : Expr) (w : WT) : Prop where
  mono : MonoT w
  pe : ∀ Y, Takes X Y → PT X e (tT (kf X) Y w)
structure PWw (X : Cx) (e : Expr) (w : WT) : Prop where
  mono : MonoT w
  pe : ∀ Y, Takes X Y → PW X e (tT (kf X) Y w)
structure PAw (X : Cx) (es : List Expr) (w : WA) : Prop where
  mono : MonoA w
  pe : ∀ Y, Takes X Y → PA X es (tA (kf X) Y w)
theorem PE.weak {X : Cx} {e : Expr} {t t' : TE} (h : PE X e t) (w : ∀ σ H Q, t' σ H Q → t σ H Q) : PE X e t' := ⟨fun pins s σ H Q I q => h.run pins s σ H Q I (w σ H Q q)⟩
theorem PT.weak {X : Cx} {e : Expr} {t t' : TT} (h : PT X e t) (w : ∀ σ H Q, t' σ H Q → t σ H Q) : PT X e t' := ⟨fun pins s σ H Q I q => h.run pins s σ H Q I (w σ H Q q)⟩
theorem PW.weak {X : Cx} {e : Expr} {t t' : TT} (h : PW X e t) (w : ∀ σ H Q, t' σ H Q → t σ H Q) : PW X e t' := ⟨fun wh pins s σ H Q I q => h.run wh pins s σ H Q I (w σ H Q q)⟩
theorem PA.weak {X : Cx} {e : List Expr} {t t' : TA} (h : PA X e t) (w : ∀ σ H Q, t' σ H Q → t σ H Q) : PA X e t' := ⟨fun pos pins s σ H Q I q => h.run pos pins s σ H Q I (w σ H Q q)⟩

def wVar (i : Nat) : W := fun ρ S Q => gv (look ρ.2 i) fun d => Q d S
def wCst (d : D) : W := fun _ S Q => Q d S
def wOp (o : OpD) (a b : W) : W := fun ρ S Q => a ρ S fun x S1 => b ρ S1 fun y S2 => o x y S2 Q
def isInt : D → (Int → Prop) → Prop
  | .int i, Q => Q i
  | _, _ => False
def isBl : D → (Bool → Prop) → Prop
  | .bl i, Q => Q i
  | _, _ => False
def wNeg (a : W) : W := fun ρ S Q => a ρ S fun x S1 => isInt x fun i => Q (.int (-i)) S1
def wNotV (a : W) : W := fun ρ S Q => a ρ S fun x S1 => truD x S1 fun k => Q (.bl (!k)) S1
def wAndV (a b : W) : W := fun ρ S Q => a ρ S fun x S1 => truD x S1 fun k => if k = true then b ρ S1 Q else Q x S1
def wOrV (a b : W) : W := fun ρ S Q => a ρ S fun x S1 => truD x S1 fun k => if k = true then Q x S1 else b ρ S1 Q
def wChain (o p : OpD) (a b c : W) : W := fun ρ S Q => a ρ S fun x S1 => b ρ S1 fun y S2 => o x y S2 fun z S3 => isBl z fun k => if k = true then c ρ S3 fun u S4 => p y u S4 Q else Q (.bl false) S3
def wIf (t : WT) (a b : W) : W := fun ρ S Q => t ρ S fun k S1 => if k = true then a ρ S1 Q else b ρ S1 Q
def wNil : WA := fun _ S Q => Q [] S
def wCons (a : W) (r : WA) : WA := fun ρ S Q => a ρ S fun x S1 => r ρ S1 fun xs S2 => Q (x :: xs) S2
def wTup (a : WA) : W := fun ρ S Q => a ρ S fun xs S1 => xs.length ≤ sizeLine ∧ Q (.tup xs) S1
def wLst (a : WA) : W := fun ρ S Q => a ρ S fun xs S1 => xs.length ≤ sizeLine ∧ Q (.ref S1.length) (S1 ++ [.lst xs])
def wNoP : Env → Sto → (Option Int → Sto → Prop) → Prop := fun _ S Q => Q none S
def wPart (a : W) : Env → Sto → (Option Int → Sto → Prop) → Prop := fun ρ S Q => a ρ S fun x S1 => isInt x fun i => Q (some i) S1
abbrev WO := Env → Sto → (Option Int → Sto → Prop) → Prop
def wSlc (a : W) (lo hi : WO) : W := fun ρ S Q => a ρ S fun x S1 => lo ρ S1 fun l S2 => hi ρ S2 fun h S3 => slcD x l h S3 Q
def callS (n : Nat) (sp : Spec) (ds : List D) (S : Sto) (Q : Q1) : Prop := ds.length = n ∧ ∃ Q0 : Q1, sp ds S Q0 ∧ ∀ d S', Q0 d S' → Q d S'
def wCall (n : Nat) (sp : Spec) (a : WA) : W := fun ρ S Q => a ρ S fun ds S1 => callS n sp ds S1 Q
abbrev CalD := List D → Sto → Q1 → Prop
def wBlt (o : CalD) (a : WA) : W := fun ρ S Q => a ρ S fun ds S1 => o ds S1 Q
abbrev MetD := D → List D → Sto → Q1 → Prop
def wMet (ty : D → Sto → Prop) (o : MetD) (r : W) (a : WA) : W := fun ρ S Q => r ρ S fun x S1 => ty x S1 ∧ a ρ S1 fun ds S2 => o x ds S2 Q
def wBits (a : W) : W := fun ρ S Q => a ρ S fun x S1 => isInt x fun i => Q (.int (Builtin.Int.intBits i : Nat)) S1
def wTst (w : W) : WT := fun ρ S Q => w ρ S fun d S1 => truD d S1 fun b => Q b S1
def wTsB (w : W) : WT := fun ρ S Q => w ρ S fun d S1 => isBl d fun b => Q b S1
def wNotB (t : WT) : WT := fun ρ S Q => t ρ S fun b S1 => Q (!b) S1
def wAndB (t u : WT) : WT := fun ρ S Q => t ρ S fun b S1 => if b = true then u ρ S1 Q else Q false S1
def wOrB (t u : WT) : WT := fun ρ S Q => t ρ S fun b S1 => if b = true then Q true S1 else u ρ S1 Q

theorem isInt_iff {d : D} {Q : Int → Prop} : isInt d Q ↔ ∃ i, d = .int i ∧ Q i := by
  cases d <;> first
    | exact ⟨fun h => ⟨_, rfl, h⟩, fun ⟨_, e, q⟩ => by cases e; exact q⟩
    | exact ⟨fun h => h.elim, fun ⟨_, e, _⟩ => nomatch e⟩
theorem isBl_iff {d : D} {Q : Bool → Prop} : isBl d Q ↔ ∃ i, d = .bl i ∧ Q i := by
  cases d <;> first
    | exact ⟨fun h => ⟨_, rfl, h⟩, fun ⟨_, e, q⟩ => by cases e; exact q⟩
    | exact ⟨fun h => h.elim, fun ⟨_, e, _⟩ => nomatch e⟩

section
variable {X : Cx} {a b c : Expr} {wa wb wc : W} {pos : Pos}
/-- one part, then what follows: the shape of most rules -/
theorem tE_k {K : KF} {Y : WX} {w : W} {σ : L2.St} {H : Hp} {ι : List Addr} {S : Sto} {ρ : Env} {G : Q1} {Q : VK} (m : MonoW w) (E : RepE K Y H ι σ ρ) (R : RepS K H ι S) (h : w ρ S G)
    (k : ∀ d S' v H' ι', Tr H ι H' ι' → RepS K H' ι' S' → RepV K H' ι' d v → RepE K Y H' ι' σ ρ → G d S' → Q v H') : tE K Y w σ H Q :=
  ⟨ρ, ι, S, E, R, m _ _ _ _ (fun d S' g v H' ι' T R' r => k d S' v H' ι' T R' r (E.tr R T) g) h⟩
theorem tT_k {K : KF} {Y : WX} {w : WT} {σ : L2.St} {H : Hp} {ι : List Addr} {S : Sto} {ρ : Env} {G : Bool → Sto → Prop} {Q : Bool → Hp → Prop} (m : MonoT w) (E : RepE K Y H ι σ ρ) (R : RepS K H ι S) (h : w ρ S G)
    (k : ∀ d S' H' ι', Tr H ι H' ι' → RepS K H' ι' S' → RepE K Y H' ι' σ ρ → G d S' → Q d H') : tT K Y w σ H Q :=
  ⟨ρ, ι, S, E, R, m _ _ _ _ (fun d S' g H' ι' T R' => k d S' H' ι' T R' (E.tr R T) g) h⟩
theorem tA_k {K : KF} {Y : WX} {w : WA} {σ : L2.St} {H : Hp} {ι : List Addr} {S : Sto} {ρ : Env} {G : List D → Sto → Prop} {Q : List V → Hp → Prop} (m : MonoA w) (E : RepE K Y H ι σ ρ) (R : RepS K H ι S) (h : w ρ S G)
    (k : ∀ ds S' vs H' ι', Tr H ι H' ι' → RepS K H' ι' S' → RepVs K H' ι' ds vs → RepE K Y H' ι' σ ρ → G ds S' → Q vs H') : tA K Y w σ H Q :=
  ⟨ρ, ι, S, E, R, m _ _ _ _ (fun d S' g v H' ι' T R' r => k d S' v H' ι' T R' r (E.tr R T) g) h⟩

theorem pw_var {i : Nat} {x : Str} (hN : X.N[i]? = some x) (hv : Vis X.env.scope x) (hd : (x == ("__debug__" : Str)) = false) (hcd : (x == ("__classdict__" : Str)) = false) : PEw X (.Name x pos) (wVar i) where
  mono := fun ρ S Q Q' h q => by
    obtain ⟨d, e, q⟩ := gv_iff.mp q
    exact gv_iff.mpr ⟨d, e, h _ _ q⟩
  pe := fun Y tk => PE.weak (pe_var hN hv hd hcd) fun σ H Q ⟨ρ, ι, S, E, R, q⟩ => by
    obtain ⟨d, e, q⟩ := gv_iff.mp q
    obtain ⟨v, e1, r⟩ := E.r.at_ i d e
    exact ⟨v, e1, q v H ι (Tr.refl _ _) R r⟩
theorem pw_cst {e : Expr} {d : D} {v : V} (h : PE X e (tC v)) (r : ∀ H ι, RepV (kf X) H ι d v) : PEw X e (wCst d) where
  mono := fun ρ S Q Q' h q => h _ _ q
  pe := fun Y tk => PE.weak h fun σ H Q ⟨ρ, ι, S, E, R, q⟩ => q v H ι (Tr.refl _ _) R (r H ι)
theorem wOp_mono {o : OpD} (ho : ∀ x y S (Q Q' : Q1), (∀ d S', Q d S' → Q' d S') → o x y S Q → o x y S Q') (ma : MonoW wa) (mb : MonoW wb) : MonoW (wOp o wa wb) := fun ρ S Q Q' h q =>
  ma _ _ _ _ (fun x S1 q1 => mb _ _ _ _ (fun y S2 q2 => ho _ _ _ _ _ h q2) q1) q
theorem wOp_down {K : KF} {Y : WX} {o : OpD} {r : R2} (ma : MonoW wa) (mb : MonoW wb) (hr : ∀ x y S Q vx vy H ι QV, RepS K H ι S → RepV K H ι x vx → RepV K H ι y vy → o x y S Q → Ok1 K H ι Q QV → r vx vy H QV) :
    ∀ σ H Q, tE K Y (wOp o wa wb) σ H Q → tOp r (tE K Y wa) (tE K Y wb) σ H Q := fun σ H Q ⟨ρ, ι, S, E, R, q⟩ =>
  tE_k ma E R q fun x S1 vx H1 ι1 T1 R1 rx E1 q1 => tE_k mb E1 R1 q1 fun y S2 vy H2 ι2 T2 R2 ry E2 q2 =>
    hr x y S2 _ vx vy H2 ι2 Q R2 (RepV.tr R1 T2 _ _ rx) ry q2 fun d S3 q3 v H3 ι3 T3 R3 rv => q3 v H3 ι3 ((T1.trans T2).trans T3) R3 rv
theorem pw_bin {op : Operator} (ha : PEw X a wa) (hb : PEw X b wb) : PEw X (.BinOp a op b pos) (wOp (opD op) wa wb) where
  mono := wOp_mono (opD_S (X := X) op).mono ha.mono hb.mono
  pe := fun Y tk => by
    obtain ⟨r, hr, h⟩ := (opD_S (X := X) op).rd
    exact PE.weak (pe_op hr (ha.pe Y tk) (hb.pe Y tk)) (wOp_down ha.mono hb.mono h)
theorem pw_cmp {op : CmpOp} (hu : X.A.units + 65 < cLine) (ha : PEw X a wa) (hb : PEw X b wb) (hm : behindInMarks op b = false) : PEw X (.Compare a [op] [b] pos) (wOp (cmpD op) wa wb) where
  mono := wOp_mono (cmpD_S hu op).mono ha.mono hb.mono
  pe := fun Y tk => by
    obtain ⟨r, hr, h⟩ := (cmpD_S (X := X) hu op).rd
    exact PE.weak (pe_cmpR hr (ha.pe Y tk) (hb.pe Y tk) hm) (wOp_down ha.mono hb.mono h)
theorem wTsB_mono (m : MonoW wa) : MonoT (wTsB wa) := fun ρ S Q Q' h q => m _ _ _ _ (fun d S1 q1 => by
  obtain ⟨k, e, q⟩ := isBl_iff.mp q1
  exact isBl_iff.mpr ⟨k, e, h _ _ q⟩) q
theorem wTst_mono (m : MonoW wa) : MonoT (wTst wa) := fun ρ S Q Q' h q => m _ _ _ _ (fun d S1 q1 => truD_mono (fun b => h b S1) q1) q
theorem tTest_down {K : KF} {Y : WX} {t : TE} {w : W} (h : ∀ σ H Q, tE K Y w σ H Q → t σ H Q) (m : MonoW w) : ∀ σ H Q, tT K Y (wTsB w) σ H Q → tTest t σ H Q := fun σ H Q ⟨ρ, ι, S, E, R, q⟩ =>
  h σ H _ (tE_k m E R q fun d S1 v H1 ι1 T1 R1 r E1 q1 => by
    obtain ⟨k, e, q2⟩ := isBl_iff.mp q1
    subst e
    cases r
    exact ⟨k, rfl, q2 H1 ι1 T1 R1⟩)
theorem pw_cmpT {op : CmpOp} (hu : X.A.units + 65 < cLine) (ha : PEw X a wa) (hb : PEw X b wb) (hm : behindInMarks op b = false) : PTw X (.Compare a [op] [b] pos) (wTsB (wOp (cmpD op) wa wb)) where
  mono := wTsB_mono (wOp_mono (cmpD_S hu op).mono ha.mono hb.mono)
  pe := fun Y tk => by
    obtain ⟨r, hr, h⟩ := (cmpD_S (X := X) hu op).rd
    exact PT.weak (pt_cmpR hr (ha.pe Y tk) (hb.pe Y tk) hm) (tTest_down (wOp_down ha.mono hb.mono h) (wOp_mono (cmpD_S hu op).mono ha.mono hb.mono))
theorem wChain_mono {o p : OpD} (ho : ∀ x y S (Q Q' : Q1), (∀ d S', Q d S' → Q' d S') → o x y S Q → o x y S Q') (hp : ∀ x y S (Q Q' : Q1), (∀ d S', Q d S' → Q' d S') → p x y S Q → p x y S Q') (ma : MonoW wa) (mb : MonoW wb) (mc : MonoW wc) : MonoW (wChain o p wa wb wc) := fun ρ S Q Q' h q =>
  ma _ _ _ _ (fun x S1 q1 => mb _ _ _ _ (fun y S2 q2 => ho _ _ _ _ _ (fun z S3 q3 => by
    obtain ⟨k, e, q4⟩ := isBl_iff.mp q3
    refine isBl_iff.mpr ⟨k, e, ?_⟩
    cases k with
    | true => exact mc _ _ _ _ (fun u S4 q5 => hp _ _ _ _ _ h q5) q4
    | false => exact h _ _ q4) q2) q1) q
theorem wChain_down {K : KF} {Y : WX} {o p : OpD} {r r' : R2} (ma : MonoW wa) (mb : MonoW wb) (mc : MonoW wc) (mo : ∀ x y S (Q Q' : Q1), (∀ d S', Q d S' → Q' d S') → o x y S Q → o x y S Q')
    (hr : ∀ x y S Q vx vy H ι QV, RepS K H ι S → RepV K H ι x vx → RepV K H ι y vy → o x y S Q → Ok1 K H ι Q QV → r vx vy H QV)
    (hr' : ∀ x y S Q vx vy H ι QV, RepS K H ι S → RepV K H ι x vx → RepV K H ι y vy → p x y S Q → Ok1 K H ι Q QV → r' vx vy H QV) :
    ∀ σ H Q, tE K Y (wChain o p wa wb wc) σ H Q → tChain r r' (tE K Y wa) (tE K Y wb) (tE K Y wc) σ H Q := fun σ H Q ⟨ρ, ι, S, E, R, q⟩ =>
  tE_k ma E R q fun x S1 vx H1 ι1 T1 R1 rx E1 q1 => tE_k mb E1 R1 q1 fun y S2 vy H2 ι2 T2 R2 ry E2 q2 =>
    hr x y S2 _ vx vy H2 ι2 _ R2 (RepV.tr R1 T2 _ _ rx) ry q2 fun d S3 q3 v H3 ι3 T3 R3 rv => by
      obtain ⟨k, e, q4⟩ := isBl_iff.mp q3
      subst e
      cases rv
      refine ⟨k, rfl, ?_⟩
      cases k with
      | true => exact tE_k mc (E2.tr R2 T3) R3 q4 fun u S4 vu H4 ι4 T4 R4 ru E4 q5 => hr' y u S4 _ vy vu H4 ι4 Q R4 (RepV.tr R3 T4 _ _ (RepV.tr R2 T3 _ _ ry)) ru q5 fun d S5 q6 v H5 ι5 T5 R5 rv => q6 v H5 ι5 ((((T1.trans T2).trans T3).trans T4).trans T5) R5 rv
      | false => exact q4 (.bl false) H3 ι3 ((T1.trans T2).trans T3) R3 rfl
theorem pw_chain {op op' : CmpOp} (hu : X.A.units + 65 < cLine) (ha : PEw X a wa) (hb : PEw X b wb) (hc : PEw X c wc) (hm : lastMarks [op, op'] [b, c] = false) : PEw X (.Compare a [op, op'] [b, c] pos) (wChain (cmpD op) (cmpD op') wa wb wc) where
  mono := wChain_mono (cmpD_S hu op).mono (cmpD_S hu op').mono ha.mono hb.mono hc.mono
  pe := fun Y tk => by
    obtain ⟨r, hr, h⟩ := (cmpD_S (X := X) hu op).rd
    obtain ⟨r', hr', h'⟩ := (cmpD_S (X := X) hu op').rd
    exact PE.weak (pe_chain hr hr' (ha.pe Y tk) (hb.pe Y tk) (hc.pe Y tk) hm) (wChain_down ha.mono hb.mono hc.mono (cmpD_S hu op).mono h h')
theorem pw_chainT {op op' : CmpOp} (hu : X.A.units + 65 < cLine) (ha : PEw X a wa) (hb : PEw X b wb) (hc : PEw X c wc) (hm : lastMarks [op, op'] [b, c] = false) : PTw X (.Compare a [op, op'] [b, c] pos) (wTsB (wChain (cmpD op) (cmpD op') wa wb wc)) where
  mono := wTsB_mono (wChain_mono (cmpD_S hu op).mono (cmpD_S hu op').mono ha.mono hb.mono hc.mono)
  pe := fun Y tk => by
    obtain ⟨r, hr, h⟩ := (cmpD_S (X := X) hu op).rd
    obtain ⟨r', hr', h'⟩ := (cmpD_S (X := X) hu op').rd
    exact PT.weak (pt_chain hr hr' (ha.pe Y tk) (hb.pe Y tk) (hc.pe Y tk) hm) (tTest_down (wChain_down ha.mono hb.mono hc.mono (cmpD_S hu op).mono h h') (wChain_mono (cmpD_S hu op).mono (cmpD_S hu op').mono ha.mono hb.mono hc.mono))
theorem pw_truth (ha : PEw X a wa) (he : ∀ whole, isTrue a X.env whole = (do let v ← whole; standAt a.pos; holding [v] (truthy v))) : PTw X a (wTst wa) where
  mono := wTst_mono ha.mono
  pe := fun Y tk => PT.weak (pt_truth (ha.pe Y tk) he) fun σ H Q ⟨ρ, ι, S, E, R, q⟩ => tE_k ha.mono E R q fun d S1 v H1 ι1 T1 R1 r E1 q1 => by
    obtain ⟨k, h1, h2⟩ := truD_V R1 r q1
    exact ⟨k, h1, h2 H1 ι1 T1 R1⟩
theorem pw_neg (ha : PEw X a wa) : PEw X (.UnaryOp .USub a pos) (wNeg wa) where
  mono := fun ρ S Q Q' h q => ha.mono _ _ _ _ (fun x S1 q1 => by
    obtain ⟨i, e, q⟩ := isInt_iff.mp q1
    exact isInt_iff.mpr ⟨i, e, h _ _ q⟩) q
  pe := fun Y tk => PE.weak (pe_un un_neg (ha.pe Y tk)) fun σ H Q ⟨ρ, ι, S, E, R, q⟩ => tE_k ha.mono E R q fun d S1 v H1 ι1 T1 R1 r E1 q1 => by
    obtain ⟨i, e, q⟩ := isInt_iff.mp q1
    subst e
    cases r
    exact ⟨i, rfl, q (.int (-i)) H1 ι1 T1 R1 rfl⟩
theorem pw_notV (ha : PEw X a wa) : PEw X (.UnaryOp .Not a pos) (wNotV wa) where
  mono := fun ρ S Q Q' h q => ha.mono _ _ _ _ (fun x S1 q1 => truD_mono (fun b => h _ _) q1) q
  pe := fun Y tk => PE.weak (pe_notT (ha.pe Y tk)) fun σ H Q ⟨ρ, ι, S, E, R, q⟩ => tE_k ha.mono E R q fun d S1 v H1 ι1 T1 R1 r E1 q1 => by
    obtain ⟨k, h1, h2⟩ := truD_V R1 r q1
    exact ⟨k, h1, h2 (.bl (!k)) H1 ι1 T1 R1 rfl⟩
theorem pw_one {op : BoolOp} (ha : PEw X a wa) : PEw X (.BoolOp op [a] pos) wa := ⟨ha.mono, fun Y tk => pe_one (ha.pe Y tk)⟩
theorem pw_andV {rest : List Expr} (ha : PEw X a wa) (hb : PEw X (.BoolOp .And (b :: rest) pos) wb) : PEw X (.BoolOp .And (a :: b :: rest) pos) (wAndV wa wb) where
  mono := fun ρ S Q Q' h q => ha.mono _ _ _ _ (fun x S1 q1 => truD_mono (fun k q => by
    cases k with
    | true => exact hb.mono _ _ _ _ h q
    | false => exact h _ _ q) q1) q
  pe := fun Y tk => PE.weak (pe_andT (ha.pe Y tk) (hb.pe Y tk)) fun σ H Q ⟨ρ, ι, S, E, R, q⟩ => tE_k ha.mono E R q fun d S1 v H1 ι1 T1 R1 r E1 q1 => by
    obtain ⟨k, h1, h2⟩ := truD_V R1 r q1
    refine ⟨k, h1, ?_⟩
    cases k with
    | true => exact tE_k hb.mono E1 R1 h2 fun d S2 v H2 ι2 T2 R2 r E2 q2 => q2 v H2 ι2 (T1.trans T2) R2 r
    | false => exact h2 v H1 ι1 T1 R1 r
theorem pw_orV {rest : List Expr} (ha : PEw X a wa) (hb : PEw X (.BoolOp .Or (b :: rest) pos) wb) : PEw X (.BoolOp .Or (a :: b :: rest) pos) (wOrV wa wb) where
  mono := fun ρ S Q Q' h q => ha.mono _ _ _ _ (fun x S1 q1 => truD_mono (fun k q => by
    cases k with
    | true => exact h _ _ q
    | false => exact hb.mono _ _ _ _ h q) q1) q
  pe := fun Y tk => PE.weak (pe_orT (ha.pe Y tk) (hb.pe Y tk)) fun σ H Q ⟨ρ, ι, S, E, R, q⟩ => tE_k ha.mono E R q fun d S1 v H1 ι1 T1 R1 r E1 q1 => by
    obtain ⟨k, h1, h2⟩ := truD_V R1 r q1
    refine ⟨k, h1, ?_⟩
    cases k with
    | true => exact h2 v H1 ι1 T1 R1 r
    | false => exact tE_k hb.mono E1 R1 h2 fun d S2 v H2 ι2 T2 R2 r E2 q2 => q2 v H2 ι2 (T1.trans T2) R2 r
theorem pw_if {wt : WT} (hc : PTw X c wt) (ha : PEw X a wa) (hb : PEw X b wb) : PEw X (.IfExp c a b pos) (wIf wt wa wb) where
  mono := fun ρ S Q Q' h q => hc.mono _ _ _ _ (fun k S1 q1 => by
    cases k with
    | true => exact ha.mono _ _ _ _ h q1
    | false => exact hb.mono _ _ _ _ h q1) q
  pe := fun Y tk => PE.weak (pe_ifExp (hc.pe Y tk) (ha.pe Y tk) (hb.pe Y tk)) fun σ H Q ⟨ρ, ι, S, E, R, q⟩ => tT_k hc.mono E R q fun k S1 H1 ι1 T1 R1 E1 q1 => by
    cases k with
    | true => exact tE_k ha.mono E1 R1 q1 fun d S2 v H2 ι2 T2 R2 r E2 q2 => q2 v H2 ι2 (T1.trans T2) R2 r
    | false => exact tE_k hb.mono E1 R1 q1 fun d S2 v H2 ι2 T2 R2 r E2 q2 => q2 v H2 ι2 (T1.trans T2) R2 r
theorem pw_notT {t : WT} (h : PTw X a t) : PTw X (.UnaryOp .Not a pos) (wNotB t) where
  mono := fun ρ S Q Q' g q => h.mono _ _ _ _ (fun k S1 q1 => g _ _ q1) q
  pe := fun Y tk => PT.weak (pt_not (h.pe Y tk)) fun σ H Q ⟨ρ, ι, S, E, R, q⟩ => tT_k h.mono E R q fun k S1 H1 ι1 T1 R1 E1 q1 => q1 H1 ι1 T1 R1
theorem pw_and1T {t : WT} (h : PTw X a t) : PWw X (.BoolOp .And [a] pos) t := ⟨h.mono, fun Y tk => pw_and1 (h.pe Y tk)⟩
theorem pw_or1T {t : WT} (h : PTw X a t) : PWw X (.BoolOp .Or [a] pos) t := ⟨h.mono, fun Y tk => pw_or1 (h.pe Y tk)⟩
theorem pw_andT {t u : WT} {rest : List Expr} (h : PTw X a t) (g : PWw X (.BoolOp .And (b :: rest) pos) u) : PWw X (.BoolOp .And (a :: b :: rest) pos) (wAndB t u) where
  mono := fun ρ S Q Q' w q => h.mono _ _ _ _ (fun k S1 q1 => by
    cases k with
    | true => exact g.mono _ _ _ _ w q1
    | false => exact w _ _ q1) q
  pe := fun Y tk => PW.weak (pw_and (h.pe Y tk) (g.pe Y tk)) fun σ H Q ⟨ρ, ι, S, E, R, q⟩ => tT_k h.mono E R q fun k S1 H1 ι1 T1 R1 E1 q1 => by
    cases k with
    | true => exact tT_k g.mono E1 R1 q1 fun d S2 H2 ι2 T2 R2 E2 q2 => q2 H2 ι2 (T1.trans T2) R2
    | false => exact q1 H1 ι1 T1 R1
theorem pw_orT {t u : WT} {rest : List Expr} (h : PTw X a t) (g : PWw X (.BoolOp .Or (b :: rest) pos) u) : PWw X (.BoolOp .Or (a :: b :: rest) pos) (wOrB t u) where
  mono := fun ρ S Q Q' w q => h.mono _ _ _ _ (fun k S1 q1 => by
    cases k with
    | true => exact w _ _ q1
    | false => exact g.mono _ _ _ _ w q1) q
  pe := fun Y tk => PW.weak (pw_or (h.pe Y tk) (g.pe Y tk)) fun σ H Q ⟨ρ, ι, S, E, R, q⟩ => tT_k h.mono E R q fun k S1 H1 ι1 T1 R1 E1 q1 => by
    cases k with
    | true => exact q1 H1 ι1 T1 R1
    | false => exact tT_k g.mono E1 R1 q1 fun d S2 H2 ι2 T2 R2 E2 q2 => q2 H2 ι2 (T1.trans T2) R2
theorem pw_nil : PAw X [] wNil where
  mono := fun ρ S Q Q' h q => h _ _ q
  pe := fun Y tk => PA.weak pa_nil fun σ H Q ⟨ρ, ι, S, E, R, q⟩ => q [] H ι (Tr.refl _ _) R rfl
theorem pw_cons {es : List Expr} {wr : WA} (ha : PEw X a wa) (hr : PAw X es wr) (hs : starEach (a :: es) X.env = (false, eval a X.env) :: starEach es X.env) : PAw X (a :: es) (wCons wa wr) where
  mono := fun ρ S Q Q' h q => ha.mono _ _ _ _ (fun x S1 q1 => hr.mono _ _ _ _ (fun xs S2 q2 => h _ _ q2) q1) q
  pe := fun Y tk => PA.weak (pa_cons (ha.pe Y tk) (hr.pe Y tk) hs) fun σ H Q ⟨ρ, ι, S, E, R, q⟩ => tE_k ha.mono E R q fun d S1 v H1 ι1 T1 R1 r E1 q1 => tA_k hr.mono E1 R1 q1 fun ds S2 vs H2 ι2 T2 R2 rs E2 q2 =>
    q2 (v :: vs) H2 ι2 (T1.trans T2) R2 ⟨v, vs, rfl, RepV.tr R1 T2 _ _ r, rs⟩
theorem pw_tup {es : List Expr} {wr : WA} {k : Nat} (hr : PAw X es wr) : PEw X (.Tuple es k pos) (wTup wr) where
  mono := fun ρ S Q Q' h q => hr.mono _ _ _ _ (fun xs S1 q1 => ⟨q1.1, h _ _ q1.2⟩) q
  pe := fun Y tk => PE.weak (pe_tup (hr.pe Y tk)) fun σ H Q ⟨ρ, ι, S, E, R, q⟩ => tA_k hr.mono E R q fun ds S1 vs H1 ι1 T1 R1 rs E1 q1 => by
    refine ⟨by rw [← rs.length]; exact q1.1, fun p hp => q1.2 _ _ _ (T1.trans (Tr.new R1 hp)) (RepS.new R1 hp) ⟨p, vs, rfl, upd_same, RepVs.tr R1 (Tr.new R1 hp) _ _ rs⟩⟩
theorem pw_lst {es : List Expr} {wr : WA} (hr : PAw X es wr) : PEw X (.List es pos) (wLst wr) where
  mono := fun ρ S Q Q' h q => hr.mono _ _ _ _ (fun xs S1 q1 => ⟨q1.1, h _ _ q1.2⟩) q
  pe := fun Y tk => PE.weak (pe_lst (hr.pe Y tk)) fun σ H Q ⟨ρ, ι, S, E, R, q⟩ => tA_k hr.mono E R q fun ds S1 vs H1 ι1 T1 R1 rs E1 q1 => by
    refine ⟨by rw [← rs.length]; exact q1.1, fun p hp => q1.2 _ _ _ (T1.trans (Tr.alloc R1 hp)) (RepS.alloc R1 hp rs) (RepV.new R1)⟩
theorem pw_idx (hu : X.A.units + 1 < cLine) (ha : PEw X a wa) (hb : PEw X b wb) (hs : PlainIx b) : PEw X (.Subscript a b pos) (wOp idxD wa wb) where
  mono := wOp_mono idxD_mono ha.mono hb.mono
  pe := fun Y tk => PE.weak (pe_ix (IxR.or ix_seq (ix_dct hu)) (ha.pe Y tk) (hb.pe Y tk) hs) (wOp_down ha.mono hb.mono idxD_V)
def tO (K : KF) (Y : WX) (w : WO) : TO := fun σ H Q => ∃ ρ ι S, RepE K Y H ι σ ρ ∧ RepS K H ι S ∧ w ρ S fun o S' => ∀ H' ι', Tr H ι H' ι' → RepS K H' ι' S' → Q o H'
structure POw (X : Cx) (e : Option Expr) (w : WO) : Prop where
  mono : ∀ ρ S (Q Q' : Option Int → Sto → Prop), (∀ d S', Q d S' → Q' d S') → w ρ S Q → w ρ S Q'
  po : ∀ Y, Takes X Y → PO X e (tO (kf X) Y w)
theorem PO.weak {e : Option Expr} {t t' : TO} (h : PO X e t) (w : ∀ σ H Q, t' σ H Q → t σ H Q) : PO X e t' := by
  obtain ⟨h⟩ := h
  constructor
  intros
  first
    | (apply h <;> first | assumption | (apply w; assumption))
theorem tO_k {K : KF} {Y : WX} {w : WO} {σ : L2.St} {H : Hp} {ι : List Addr} {S : Sto} {ρ : Env} {G : Option Int → Sto → Prop} {Q : Option Int → Hp → Prop} (m : ∀ ρ S (Q Q' : Option Int → Sto → Prop), (∀ d S', Q d S' → Q' d S') → w ρ S Q → w ρ S Q') (E : RepE K Y H ι σ ρ) (R : RepS K H ι S) (h : w ρ S G)
    (k : ∀ d S' H' ι', Tr H ι H' ι' → RepS K H' ι' S' → RepE K Y H' ι' σ ρ → G d S' → Q d H') : tO K Y w σ H Q :=
  ⟨ρ, ι, S, E, R, m _ _ _ _ (fun d S' g H' ι' T R' => k d S' H' ι' T R' (E.tr R T) g) h⟩
theorem pw_oNone : POw X none wNoP where
  mono := fun ρ S Q Q' h q => h _ _ q
  po := fun Y tk => PO.weak po_none fun σ H Q ⟨ρ, ι, S, E, R, q⟩ => q H ι (Tr.refl _ _) R
theorem pw_oSome (ha : PEw X a wa) : POw X (some a) (wPart wa) where
  mono := fun ρ S Q Q' h q => ha.mono _ _ _ _ (fun x S1 q1 => by
    obtain ⟨i, e, q⟩ := isInt_iff.mp q1
    exact isInt_iff.mpr ⟨i, e, h _ _ q⟩) q
  po := fun Y tk => PO.weak (po_some (ha.pe Y tk)) fun σ H Q ⟨ρ, ι, S, E, R, q⟩ => tE_k ha.mono E R q fun d S1 v H1 ι1 T1 R1 r E1 q1 => by
    obtain ⟨i, e, q⟩ := isInt_iff.mp q1
    subst e
    cases r
    exact ⟨i, rfl, q H1 ι1 T1 R1⟩
theorem pw_slc {lo hi : Option Expr} {wl wh : WO} {p2 : Pos} (ha : PEw X a wa) (hl : POw X lo wl) (hh : POw X hi wh) : PEw X (.Subscript a (.Slice lo hi none p2) pos) (wSlc wa wl wh) where
  mono := fun ρ S Q Q' h q => ha.mono _ _ _ _ (fun x S1 q1 => hl.mono _ _ _ _ (fun l S2 q2 => hh.mono _ _ _ _ (fun u S3 q3 => slcD_mono h q3) q2) q1) q
  pe := fun Y tk => PE.weak (pe_slice slc_r (ha.pe Y tk) (hl.po Y tk) (hh.po Y tk)) fun σ H Q ⟨ρ, ι, S, E, R, q⟩ => tE_k ha.mono E R q fun d S1 v H1 ι1 T1 R1 r E1 q1 =>
    tO_k hl.mono E1 R1 q1 fun l S2 H2 ι2 T2 R2 E2 q2 => tO_k hh.mono E2 R2 q2 fun u S3 H3 ι3 T3 R3 E3 q3 =>
      slcD_V R3 (RepV.tr R2 T3 _ _ (RepV.tr R1 T2 _ _ r)) q3 fun d S4 q4 v H4 ι4 T4 R4 rv => q4 v H4 ι4 (((T1.trans T2).trans T3).trans T4) R4 rv
theorem pw_bits {apos : Pos} (ha : PEw X a wa) (hbase : attributeBase a "bit_length" X.env (eval a X.env) = eval a X.env) (hline : (apos.endLine == pos.line) = true) : PEw X (.Call (.Attribute a "bit_length" apos) [] [] pos) (wBits wa) where
  mono := fun ρ S Q Q' h q => ha.mono _ _ _ _ (fun x S1 q1 => by
    obtain ⟨i, e, q⟩ := isInt_iff.mp q1
    exact isInt_iff.mpr ⟨i, e, h _ _ q⟩) q
  pe := fun Y tk => PE.weak (pe_bits (ha.pe Y tk) hbase hline) fun σ H Q ⟨ρ, ι, S, E, R, q⟩ => tE_k ha.mono E R q fun d S1 v H1 ι1 T1 R1 r E1 q1 => by
    obtain ⟨i, e, q⟩ := isInt_iff.mp q1
    subst e
    cases r
    exact ⟨i, rfl, q (.int _) H1 ι1 T1 R1 rfl⟩
/-- the promise of a def, over the machine's heap -/
def spOf (K : KF) (n : Nat) (sp : Spec) : Sp := fun vs H Q _ => ∃ ι S ds, RepS K H ι S ∧ RepVs K H ι ds vs ∧ callS n sp ds S fun d S' => ∀ v H' ι', Tr H ι H' ι' → RepS K H' ι' S' → RepV K H' ι' d v → Q v H'
theorem callS_mono {n : Nat} {sp : Spec} {ds : List D} {S : Sto} {Q Q' : Q1} (h : ∀ d S', Q d S' → Q' d S') (q : callS n sp ds S Q) : callS n sp ds S Q' :=
  let ⟨e, Q0, q1, q2⟩ := q
  ⟨e, Q0, q1, fun d S' z => h _ _ (q2 d S' z)⟩
theorem pw_call {x : Str} {es : List Expr} {wr : WA} {f : Addr} {fd : FuncData} {ps : List Str} {n k : Nat} {sp : Spec} {p : Pos} (F : FnOk X.prog X.w X.K X.mg X.base CX0 k f fd ps (spOf (kf X) n sp)) (hr : Room k X.A) (hg : Gl X x) (hm : X.mg x = some (.ref f))
    (hk : PySem.W.keepIn X.K (.ref f) = true) (hb : Binds X.K fd ps []) (ha : PAw X (a :: es) wr) (hdb : (x == ("__debug__" : Str)) = false) (he : starEach (a :: es) X.env = (false, eval a X.env) :: starEach es X.env) (hpl : (backTo pos (starEach es X.env)).any (·.1) = false) :
    PEw X (.Call (.Name x p) (a :: es) [] pos) (wCall n sp wr) where
  mono := fun ρ S Q Q' h q => ha.mono _ _ _ _ (fun ds S1 q1 => callS_mono h q1) q
  pe := fun Y tk => PE.weak (pe_call F hr hg hm hk hb .nil pass0 (ha.pe Y tk) hdb he hpl) fun σ H Q ⟨ρ, ι, S, E, R, q⟩ => tA_k ha.mono E R q fun ds S1 vs H1 ι1 T1 R1 rs E1 q1 => by
    rw [List.append_nil]
    exact ⟨ι1, S1, ds, R1, rs, callS_mono (fun d S2 q2 v H2 ι2 T2 R2 r => q2 v H2 ι2 (T1.trans T2) R2 r) q1⟩
structure CalS (X : Cx) (f : Value) (o : CalD) : Prop where
  mono : ∀ ds S (Q Q' : Q1), (∀ d S', Q d S' → Q' d S') → o ds S Q → o ds S Q'
  rd : ∃ r, CallR X f r ∧ ∀ ds S Q vs H ι QV, RepS (kf X) H ι S → RepVs (kf X) H ι ds vs → o ds S Q → Ok1 (kf X) H ι Q QV → r vs H QV
theorem wBlt_mono {o : CalD} {wr : WA} (mo : ∀ ds S (Q Q' : Q1), (∀ d S', Q d S' → Q' d S') → o ds S Q → o ds S Q') (m : MonoA wr) : MonoW (wBlt o wr) := fun ρ S Q Q' h q => m _ _ _ _ (fun ds S1 q1 => mo _ _ _ _ h q1) q
theorem pw_bltB {x : Str} {es : List Expr} {wr : WA} {p : Pos} {id : String} {o : CalD} (C : CalS X (.builtin id) o) (hg : Gl X x) (hm : X.mg x = none) (hv : bootBuiltins x = some (.builtin id)) (ha : PAw X (a :: es) wr) (hn : x ≠ "__name__") (hdb : (x == ("__debug__" : Str)) = false)
    (he : starEach (a :: es) X.env = (false, eval a X.env) :: starEach es X.env) (hpl : (backTo pos (starEach es X.env)).any (·.1) = false) : PEw X (.Call (.Name x p) (a :: es) [] pos) (wBlt o wr) where
  mono := wBlt_mono C.mono ha.mono
  pe := fun Y tk => by
    obtain ⟨r, hc, h⟩ := C.rd
    exact PE.weak (pe_callB hc hg hm hv (ha.pe Y tk) hn hdb he hpl) fun σ H Q ⟨ρ, ι, S, E, R, q⟩ => tA_k ha.mono E R q fun ds S1 vs H1 ι1 T1 R1 rs E1 q1 =>
      h ds S1 _ vs H1 ι1 Q R1 rs q1 fun d S2 q2 v H2 ι2 T2 R2 r => q2 v H2 ι2 (T1.trans T2) R2 r
theorem pw_bltT {x : Str} {es : List Expr} {wr : WA} {p : Pos} {id : String} {o : CalD} (C : CalS X (.type id) o) (hg : Gl X x) (hm : X.mg x = none) (hv : bootBuiltins x = some (.type id)) (ha : PAw X (a :: es) wr) (hn : x ≠ "__name__") (hdb : (x == ("__debug__" : Str)) = false)
    (he : starEach (a :: es) X.env = (false, eval a X.env) :: starEach es X.env) (hpl : (backTo pos (starEach es X.env)).any (·.1) = false) : PEw X (.Call (.Name x p) (a :: es) [] pos) (wBlt o wr) where
  mono := wBlt_mono C.mono ha.mono
  pe := fun Y tk => by
    obtain ⟨r, hc, h⟩ := C.rd
    exact PE.weak (pe_callTy hc hg hm hv (ha.pe Y tk) hn hdb he hpl) fun σ H Q ⟨ρ, ι, S, E, R, q⟩ => tA_k ha.mono E R q fun ds S1 vs H1 ι1 T1 R1 rs E1 q1 =>
      h ds S1 _ vs H1 ι1 Q R1 rs q1 fun d S2 q2 v H2 ι2 T2 R2 r => q2 v H2 ι2 (T1.trans T2) R2 r
structure MetS (X : Cx) (T id : String) (ty : D → Sto → Prop) (o : MetD) : Prop where
  mono : ∀ x ds S (Q Q' : Q1), (∀ d S', Q d S' → Q' d S') → o x ds S Q → o x ds S Q'
  ty_ : ∀ x S v H ι, RepS (kf X) H ι S → RepV (kf X) H ι x v → ty x S → tyV X.K T v H
  rd : ∃ r, MtR X id r ∧ ∀ x ds S Q v vs H ι QV, RepS (kf X) H ι S → RepV (kf X) H ι x v → RepVs (kf X) H ι ds vs → o x ds S Q → Ok1 (kf X) H ι Q QV → r v vs H QV
theorem wMet_mono {ty : D → Sto → Prop} {o : MetD} {wr : WA} (mo : ∀ x ds S (Q Q' : Q1), (∀ d S', Q d S' → Q' d S') → o x ds S Q → o x ds S Q') (m : MonoW wa) (mr : MonoA wr) : MonoW (wMet ty o wa wr) := fun ρ S Q Q' h q =>
  m _ _ _ _ (fun x S1 q1 => ⟨q1.1, mr _ _ _ _ (fun ds S2 q2 => mo _ _ _ _ _ h q2) q1.2⟩) q
theorem pw_met {T id : String} {name : Str} {ty : D → Sto → Prop} {o : MetD} {es : List Expr} {wr : WA} {apos : Pos} (M : MetS X T id ty o) (pa : PlainAttrs T) (slot : Slot T name id) (hty : typeOf (.builtin id) = pure (.type "method_descriptor")) (hc : PEw X c wc) (ha : PAw X (a :: es) wr)
    (hbase : attributeBase c name X.env (eval c X.env) = eval c X.env)
    (hfew : ((backTo pos (starEach (a :: es) X.env)).all (fun x => !x.1) && (backToKw pos (keywordEach [] X.env)).all (fun x => x.1.isSome)
      && decide ((a :: es).length + ([] : List Keyword).length + (if ([] : List Keyword).isEmpty then 0 else 1) < 30)) = true)
    (hline : (apos.endLine == pos.line) = true) (hs : starEach (a :: es) X.env = (false, eval a X.env) :: starEach es X.env) (hplain : (backTo pos (starEach es X.env)).any (·.1) = false) :
    PEw X (.Call (.Attribute c name apos) (a :: es) [] pos) (wMet ty o wc wr) where
  mono := wMet_mono M.mono hc.mono ha.mono
  pe := fun Y tk => by
    obtain ⟨r, hm, h⟩ := M.rd
    exact PE.weak (pe_bm pa slot hty hm (hc.pe Y tk) (ha.pe Y tk) hbase hfew hline hs hplain) fun σ H Q ⟨ρ, ι, S, E, R, q⟩ => tE_k hc.mono E R q fun d S1 v H1 ι1 T1 R1 rx E1 q1 =>
      ⟨M.ty_ d S1 v H1 ι1 R1 rx q1.1, tA_k ha.mono E1 R1 q1.2 fun ds S2 vs H2 ι2 T2 R2 rs E2 q2 =>
        h d ds S2 _ v vs H2 ι2 Q R2 (RepV.tr R1 T2 _ _ rx) rs q2 fun d S3 q3 v H3 ι3 T3 R3 r => q3 v H3 ι3 ((T1.trans T2).trans T3) R3 r⟩
theorem pw_met0 {T id : String} {name : Str} {ty : D → Sto → Prop} {o : MetD} {apos : Pos} (M : MetS X T id ty o) (pa : PlainAttrs T) (slot : Slot T name id) (hty : typeOf (.builtin id) = pure (.type "method_descriptor")) (hc : PEw X c wc)
    (hbase : attributeBase c name X.env (eval c X.env) = eval c X.env) (hline : (apos.endLine == pos.line) = true) : PEw X (.Call (.Attribute c name apos) [] [] pos) (wMet ty o wc wNil) where
  mono := wMet_mono M.mono hc.mono fun ρ S Q Q' h q => h _ _ q
  pe := fun Y tk => by
    obtain ⟨r, hm, h⟩ := M.rd
    exact PE.weak (pe_bm0 pa slot hty hm (hc.pe Y tk) hbase hline) fun σ H Q ⟨ρ, ι, S, E, R, q⟩ => tE_k hc.mono E R q fun d S1 v H1 ι1 T1 R1 rx E1 q1 =>
      ⟨M.ty_ d S1 v H1 ι1 R1 rx q1.1, h d [] S1 _ v [] H1 ι1 Q R1 rx rfl q1.2 fun d S3 q3 v H3 ι3 T3 R3 r => q3 v H3 ι3 (T1.trans T3) R3 r⟩
end
end WW
namespace WW
open PySem PySem.Spec PyProof.Rows L2
/-! ### a call of a def that may raise -/
def callX (n : Nat) (sp : SpecX) (ds : List D) (S : Sto) (Q : Q1) (E : XQ) : Prop := ds.length = n ∧ ∃ (Q0 : Q1) (E0 : XQ), sp ds S Q0 E0 ∧ (∀ d S', Q0 d S' → Q d S') ∧ ∀ c fs S', E0 c fs S' → E c fs S'
def wCallX (n : Nat) (sp : SpecX) (a : WA) : W := fun ρ S Q => a ρ S fun ds S1 => callX n sp ds S1 Q ρ.1
def spOfX (K : KF) (n : Nat) (sp : SpecX) : Sp := fun vs H Q E => ∃ ι S ds x, RepS K H ι S ∧ RepVs K H ι ds vs ∧ EnX K H ι x E ∧ callX n sp ds S (fun d S' => ∀ v H' ι', Tr H ι H' ι' → RepS K H' ι' S' → RepV K H' ι' d v → Q v H') x
theorem callX_mono {n : Nat} {sp : SpecX} {ds : List D} {S : Sto} {Q Q' : Q1} {E : XQ} (h : ∀ d S', Q d S' → Q' d S') (q : callX n sp ds S Q E) : callX n sp ds S Q' E :=
  let ⟨e, Q0, E0, q1, q2, q3⟩ := q
  ⟨e, Q0, E0, q1, fun d S' z => h _ _ (q2 d S' z), q3⟩
theorem pw_callX {X : Cx} {a : Expr} {pos : Pos} {x : Str} {es : List Expr} {wr : WA} {f : Addr} {fd : FuncData} {ps : List Str} {n k : Nat} {sp : SpecX} {p : Pos} (F : FnOk X.prog X.w X.K X.mg X.base (L2.CX X.prog X.w) k f fd ps (spOfX (kf X) n sp)) (hr : Room k X.A) (hg : Gl X x) (hm : X.mg x = some (.ref f))
    (hk : PySem.W.keepIn X.K (.ref f) = true) (hb : Binds X.K fd ps []) (ha : PAw X (a :: es) wr) (hdb : (x == ("__debug__" : Str)) = false) (he : starEach (a :: es) X.env = (false, eval a X.env) :: starEach es X.env) (hpl : (backTo pos (starEach es X.env)).any (·.1) = false) :
    PEw X (.Call (.Name x p) (a :: es) [] pos) (wCallX n sp wr) where
  mono := fun ρ S Q Q' h q => ha.mono _ _ _ _ (fun ds S1 q1 => callX_mono h q1) q
  pe := fun Y tk => PE.weak (pe_callS F hr hg hm hk hb (fun σ => passAt tk σ) (ha.pe Y tk) hdb he hpl) fun σ H Q ⟨ρ, ι, S, E, R, q⟩ => tA_k ha.mono E R q fun ds S1 vs H1 ι1 T1 R1 rs E1 q1 =>
    ⟨ι1, S1, ds, ρ.1, R1, rs, E1.x, callX_mono (fun d S2 q2 v H2 ι2 T2 R2 r => q2 v H2 ι2 (T1.trans T2) R2 r) q1⟩
end WW


set_option Elab.async false
set_option linter.all false
set_option maxRecDepth 100000
set_option maxHeartbeats 4000000
set_option autoImplicit false
namespace WW
open PySem PySem.Spec PyProof.Rows L2

/-! ### targets -/
inductive Pat where
  | nm (i : Nat)
  | tp (is : List Nat)
def bindL : List Nat → List D → Rho → Option Rho
  | [], [], ρ => some ρ
  | i :: is, d :: ds, ρ => bindL is ds (putR ρ i (some d))
  | _, _, _ => none
def bindP : Pat → D → Rho → Option Rho
  | .nm i, d, ρ => some (putR ρ i (some d))
  | .tp is, .tup ds, ρ => bindL is ds ρ
  | .tp _, _, _ => none
def gNames : List Nat → TGs
  | [] => gNil
  | i :: is => gCons (gName i) (gNames is)
def gP (K : PySem.W.Frag) : Pat → TG
  | .nm i => gName i
  | .tp is => gTup K is.length (gNames is)
def Pat.vs : Pat → List Nat
  | .nm i => [i]
  | .tp is => is
section
variable {K : KF} {H : Hp} {ι : List Addr} {S : Sto}
/-- σ' differs from σ at these slots alone -/
def Only (vs : List Nat) (σ σ' : L2.St) : Prop := σ'.length = σ.length ∧ ∀ i, i ∉ vs → σ'[i]? = σ[i]?
theorem Only.refl (vs : List Nat) (σ : L2.St) : Only vs σ σ := ⟨rfl, fun _ _ => rfl⟩
theorem Only.set {vs : List Nat} {σ : L2.St} {i : Nat} {x : Option V} (h : i ∈ vs) : Only vs σ (σ.set i x) :=
  ⟨List.length_set, fun j hj => by rw [List.getElem?_set_ne (fun e => hj (by subst e; exact h))]⟩
theorem Only.trans {vs : List Nat} {a b c : L2.St} (h : Only vs a b) (g : Only vs b c) : Only vs a c := ⟨g.1.trans h.1, fun i hi => (g.2 i hi).trans (h.2 i hi)⟩
theorem Only.mono {vs ws : List Nat} {a b : L2.St} (h : Only vs a b) (g : ∀ i ∈ vs, i ∈ ws) : Only ws a b := ⟨h.1, fun i hi => h.2 i fun q => hi (g i q)⟩
theorem wipe_at {σ : L2.St} : ∀ {vs : List Nat} {i : Nat}, (L2.wipe σ vs)[i]? = if i ∈ vs ∧ i < σ.length then some none else σ[i]?
  | [], i => by simp [L2.wipe]
  | v :: vs, i => by
    unfold L2.wipe
    by_cases hi : v = i
    · subst hi
      by_cases hl : v < σ.length
      · rw [List.getElem?_set_self (by rw [wipe_length]; exact hl), if_pos ⟨List.mem_cons_self, hl⟩]
      · rw [List.getElem?_eq_none (by rw [List.length_set, wipe_length]; omega), if_neg (fun q => hl q.2), List.getElem?_eq_none (by omega)]
    · rw [List.getElem?_set_ne hi, wipe_at]
      have : i ∈ v :: vs ↔ i ∈ vs := ⟨fun q => (List.mem_cons.mp q).elim (fun e => absurd e.symm hi) id, List.mem_cons_of_mem _⟩
      simp only [this]
theorem wipe_only {vs : List Nat} {σ σ' : L2.St} (h : Only vs σ σ') : L2.wipe σ' vs = L2.wipe σ vs := by
  apply List.ext_getElem?
  intro i
  rw [wipe_at, wipe_at, h.1]
  split
  · rfl
  · rename_i hn
    by_cases hi : i ∈ vs
    · have hl : ¬ i < σ.length := fun z => hn ⟨hi, z⟩
      rw [List.getElem?_eq_none (by rw [h.1]; omega), List.getElem?_eq_none (by omega)]
    · exact h.2 i hi
theorem wipe_wipe {vs : List Nat} {σ : L2.St} : L2.wipe (L2.wipe σ vs) vs = L2.wipe σ vs := wipe_only ⟨wipe_length σ vs, fun i hi => by
  rw [wipe_at, if_neg fun q => hi q.1]⟩
theorem bindL_S : ∀ {is : List Nat} {ds : List D} {vs : List V} {ρ ρ' : Rho} {σ : L2.St} {Q : L2.St → Hp → Prop}, bindL is ds ρ = some ρ' → RepR K H ι σ ρ → RepVs K H ι ds vs →
    (∀ σ', RepR K H ι σ' ρ' → Only is σ σ' → Q σ' H) → gNames is vs σ H Q
  | [], [], _, _, _, _, _, e, E, r, k => by
    cases e
    cases r
    exact ⟨rfl, k _ E (Only.refl _ _)⟩
  | [], _ :: _, _, _, _, _, _, e, _, _, _ => nomatch e
  | _ :: _, [], _, _, _, _, _, e, _, _, _ => nomatch e
  | i :: is, d :: ds, _, ρ, ρ', σ, Q, e, E, r, k => by
    obtain ⟨v, t, rfl, r1, r2⟩ := r
    refine ⟨v, t, rfl, ?_⟩
    exact bindL_S (is := is) (ds := ds) e (E.put r1) r2 fun σ' E' o => k σ' E' ((Only.set List.mem_cons_self).trans (o.mono fun j hj => List.mem_cons_of_mem _ hj))
theorem bindL_len : ∀ {is : List Nat} {ds : List D} {ρ ρ' : Rho}, bindL is ds ρ = some ρ' → ds.length = is.length
  | [], [], _, _, _ => rfl
  | [], _ :: _, _, _, e => nomatch e
  | _ :: _, [], _, _, e => nomatch e
  | i :: is, d :: ds, ρ, ρ', e => by
    rw [List.length_cons, List.length_cons, bindL_len (is := is) (ds := ds) e]
theorem bindP_S {p : Pat} {d : D} {v : V} {ρ ρ' : Rho} {σ : L2.St} {Q : L2.St → Hp → Prop} (e : bindP p d ρ = some ρ') (E : RepR K H ι σ ρ) (r : RepV K H ι d v)
    (k : ∀ σ', RepR K H ι σ' ρ' → Only p.vs σ σ' → Q σ' H) : gP K.K p v σ H Q := by
  cases p with
  | nm i =>
    cases e
    exact k _ (E.put r) (Only.set List.mem_cons_self)
  | tp is =>
    cases d with
    | tup ds =>
      obtain ⟨a, xs, rfl, hx, rs⟩ := r
      exact ⟨a, xs, rfl, .inl (.inl hx), by rw [← rs.length]; exact bindL_len e, bindL_S e E rs k⟩
    | non => exact nomatch e
    | bl _ => exact nomatch e
    | int _ => exact nomatch e
    | str _ => exact nomatch e
    | fro _ => exact nomatch e
    | ref _ => exact nomatch e
end

/-! ### what is walked: the items, and what must stand at every turn -/
structure Src where
  items : List D
  stab : Sto → Prop
abbrev WI := Env → Sto → (Src → Sto → Prop) → Prop
def MonoI (w : WI) : Prop := ∀ ρ S (Q Q' : Src → Sto → Prop), (∀ d S', Q d S' → Q' d S') → w ρ S Q → w ρ S Q'
/-- the machine's walk J, from H0 on, yields the items -/
def ItOk (K : KF) (H0 : Hp) (ι0 : List Addr) (J : It) (s : Src) : Prop := ∀ i H ι S, Tr H0 ι0 H ι → RepS K H ι S → s.stab S →
  (∀ d, s.items[i]? = some d → J.go i H ∧ ∀ x H', J.yld i H x H' → Tr H ι H' ι ∧ RepS K H' ι S ∧ RepV K H' ι d x) ∧ (s.items.length ≤ i → J.stop i H)
def tI (K : KF) (Y : WX) (w : WI) : TI := fun σ H R => ∃ ρ ι S, RepE K Y H ι σ ρ ∧ RepS K H ι S ∧ w ρ S fun s S' => ∀ J H' ι', Tr H ι H' ι' → RepS K H' ι' S' → ItOk K H' ι' J s → R J H'
structure PIw (X : Cx) (tg e : Expr) (w : WI) : Prop where
  mono : MonoI w
  pi : ∀ Y, Takes X Y → PI X tg e (tI (kf X) Y w)
theorem PI.weak {X : Cx} {tg e : Expr} {t t' : TI} (h : PI X tg e t) (w : ∀ σ H Q, t' σ H Q → t σ H Q) : PI X tg e t' := ⟨fun pins s σ H Q I q => h.run pins s σ H Q I (w σ H Q q)⟩
def srcD : D → Sto → (Src → Prop) → Prop
  | .tup ds, _, Q => Q ⟨ds, fun _ => True⟩
  | .fro ds, _, Q => Q ⟨ds, fun _ => True⟩
  | .ref n, S, Q => ∃ ds, S[n]? = some (.lst ds) ∧ Q ⟨ds, fun S' => S'[n]? = some (.lst ds)⟩
  | .str z, _, Q => Q ⟨z.cps.toList.map fun c => .str ⟨#[c]⟩, fun _ => True⟩
  | _, _, _ => False
theorem srcD_mono {d : D} {S : Sto} {Q Q' : Src → Prop} (h : ∀ s, Q s → Q' s) (q : srcD d S Q) : srcD d S Q' := by
  cases d <;> first | exact q.elim | exact h _ q | exact let ⟨ds, a, b⟩ := q; ⟨ds, a, h _ b⟩
def wSeqI (w : W) : WI := fun ρ S Q => w ρ S fun d S1 => srcD d S1 fun s => Q s S1
def rngD : List D → (Src → Prop) → Prop
  | [.int j], Q => (-(2 ^ 62) ≤ j ∧ j < 2 ^ 62) ∧ Q ⟨(List.range j.toNat).map fun k => .int ((0 : Int) + (k : Nat)), fun _ => True⟩
  | [.int i, .int j], Q => (-(2 ^ 62) ≤ i ∧ i < 2 ^ 62 ∧ -(2 ^ 62) ≤ j ∧ j < 2 ^ 62) ∧ Q ⟨(List.range (j - i).toNat).map fun k => .int (i + (k : Nat)), fun _ => True⟩
  | [.int i, .int j, .int c], Q => ∃ n, RgC i j c n ∧ Q ⟨(List.range n).map fun k => .int (i + (k : Nat) * c), fun _ => True⟩
  | _, _ => False
def wRng (a : WA) : WI := fun ρ S Q => a ρ S fun ds S1 => rngD ds fun s => Q s S1
section
variable {X : Cx} {tg e : Expr} {w : W} {K : KF} {H : Hp} {ι : List Addr} {S : Sto}
theorem itok_list {n : Nat} {a : Addr} {ds : List D} (h : ι[n]? = some a) : ItOk K H ι (Itl K.K a) ⟨ds, fun S' => S'[n]? = some (.lst ds)⟩ := fun i H1 ι1 S1 T R st => by
  obtain ⟨_, e1, xs, rfl, r⟩ := R.ob n a _ (T.get h) st
  have hq : SqL K.K H1 a xs := .inl (.inl e1)
  refine ⟨fun d hd => ?_, fun hl => ⟨xs, hq, by rw [← r.length]; exact hl⟩⟩
  obtain ⟨x, hx, rx⟩ := r.get hd
  refine ⟨⟨xs, x, hq, hx⟩, fun y H' hy => ?_⟩
  obtain ⟨rfl, f⟩ := hy
  have := f xs hq
  rw [hx] at this
  cases this
  exact ⟨Tr.refl _ _, R, rx⟩
theorem itok_fro {a : Addr} {xs : List V} {ds : List D} (h : SqK K H a xs) (r : RepVs K H ι ds xs) (R0 : RepS K H ι S) : ItOk K H ι (Itl K.K a) ⟨ds, fun _ => True⟩ := fun i H1 ι1 S1 T R st => by
  have hq : SqL K.K H1 a xs := (SqK.tr R0 T h).sq
  have r1 := RepVs.tr R0 T _ _ r
  refine ⟨fun d hd => ?_, fun hl => ⟨xs, hq, by rw [← r.length]; exact hl⟩⟩
  obtain ⟨x, hx, rx⟩ := r1.get hd
  refine ⟨⟨xs, x, hq, hx⟩, fun y H' hy => ?_⟩
  obtain ⟨rfl, f⟩ := hy
  have := f xs hq
  rw [hx] at this
  cases this
  exact ⟨Tr.refl _ _, R, rx⟩
theorem itok_tup {a : Addr} {xs : List V} {ds : List D} (h : H a = some (.tup xs)) (r : RepVs K H ι ds xs) (R0 : RepS K H ι S) : ItOk K H ι (Itt K.K a) ⟨ds, fun _ => True⟩ := fun i H1 ι1 S1 T R st => by
  have hq : SqT K.K H1 a xs := .inl (.inl (tup_tr R0 T h))
  have r1 := RepVs.tr R0 T _ _ r
  refine ⟨fun d hd => ?_, fun hl => ⟨xs, hq, by rw [← r.length]; exact hl⟩⟩
  obtain ⟨x, hx, rx⟩ := r1.get hd
  refine ⟨⟨xs, x, hq, hx⟩, fun y H' hy => ?_⟩
  obtain ⟨rfl, f⟩ := hy
  have := f xs hq
  rw [hx] at this
  cases this
  exact ⟨Tr.refl _ _, R, rx⟩
theorem itok_str {z : Str} : ItOk K H ι (Its z) ⟨z.cps.toList.map fun c => .str ⟨#[c]⟩, fun _ => True⟩ := fun i H1 ι1 S1 T R st => by
  refine ⟨fun d hd => ?_, fun hl => ?_⟩
  · rw [List.getElem?_map] at hd
    cases q : z.cps.toList[i]? with
    | none => rw [q] at hd; cases hd
    | some c =>
      rw [q] at hd
      cases hd
      have hc : z.cps[i]? = some c := by rw [← q]; simp
      refine ⟨(Array.getElem?_eq_some_iff.mp hc).1, fun y H' hy => ?_⟩
      obtain ⟨rfl, c', e1, rfl⟩ := hy
      rw [hc] at e1
      cases e1
      exact ⟨Tr.refl _ _, R, rfl⟩
  · show z.cps.size ≤ i
    simpa using hl
theorem itok_rng {lo : Int} {n : Nat} : ItOk K H ι (Itr lo n) ⟨(List.range n).map fun k => .int (lo + (k : Nat)), fun _ => True⟩ := fun i H1 ι1 S1 T R st => by
  refine ⟨fun d hd => ?_, fun hl => by show n ≤ i; simpa using hl⟩
  rw [List.getElem?_map] at hd
  cases q : (List.range n)[i]? with
  | none => rw [q] at hd; cases hd
  | some k =>
    obtain ⟨h1, h2⟩ := List.getElem?_eq_some_iff.mp q
    rw [List.getElem_range] at h2
    subst h2
    rw [q] at hd
    cases hd
    refine ⟨by show i < n; simpa using h1, fun y H' hy => ?_⟩
    obtain ⟨rfl, rfl⟩ := hy
    exact ⟨Tr.refl _ _, R, rfl⟩
theorem itok_rngC {lo c : Int} {n : Nat} : ItOk K H ι (Itc lo c n) ⟨(List.range n).map fun k => .int (lo + (k : Nat) * c), fun _ => True⟩ := fun i H1 ι1 S1 T R st => by
  refine ⟨fun d hd => ?_, fun hl => by show n ≤ i; simpa using hl⟩
  rw [List.getElem?_map] at hd
  cases q : (List.range n)[i]? with
  | none => rw [q] at hd; cases hd
  | some k =>
    obtain ⟨h1, h2⟩ := List.getElem?_eq_some_iff.mp q
    rw [List.getElem_range] at h2
    subst h2
    rw [q] at hd
    cases hd
    refine ⟨by show i < n; simpa using h1, fun y H' hy => ?_⟩
    obtain ⟨rfl, rfl⟩ := hy
    exact ⟨Tr.refl _ _, R, rfl⟩
theorem pi_or {t u : TI} (h : PI X tg e t) (g : PI X tg e u) : PI X tg e (fun σ H R => t σ H R ∨ u σ H R) :=
  ⟨fun pins s σ H Q I q => q.elim (h.run pins s σ H Q I) (g.run pins s σ H Q I)⟩
theorem pw_seqI (h : PEw X e w) : PIw X tg e (wSeqI w) where
  mono := fun ρ S Q Q' g q => h.mono _ _ _ _ (fun d S1 q1 => srcD_mono (fun s => g s S1) q1) q
  pi := fun Y tk => by
    refine ⟨fun pins s σ H Q I q => ?_⟩
    obtain ⟨ρ, ι, S, E, R, q⟩ := q
    -- the value first, then its kind
    refine thn ((h.pe Y tk).run pins s σ H (fun x H1 => ∃ R : Unit, (iList X.K (fun _ H R => R x H) σ H1 Q ∨ iTup X.K (fun _ H R => R x H) σ H1 Q ∨ iStr (fun _ H R => R x H) σ H1 Q)) I
      (tE_k h.mono E R q fun d S1 v H1 ι1 T1 R1 r E1 q1 => ⟨(), ?_⟩)) fun v s1 ⟨x, H1, I1, r1, _, q1⟩ => ?_
    · cases d <;> try exact q1.elim
      · cases r
        exact .inr (.inr ⟨_, rfl, q1 _ H1 ι1 T1 R1 itok_str⟩)
      · obtain ⟨a, xs, rfl, hx, rr⟩ := r
        exact .inr (.inl ⟨a, rfl, ⟨xs, .inl (.inl hx)⟩, q1 _ H1 ι1 T1 R1 (itok_tup hx rr R1)⟩)
      · obtain ⟨a, xs, rfl, hx, rr⟩ := r
        exact .inl ⟨a, rfl, ⟨xs, hx.sq⟩, q1 _ H1 ι1 T1 R1 (itok_fro hx rr R1)⟩
      · obtain ⟨ds, e, q1⟩ := q1
        obtain ⟨a, xs, rfl, hi, hx, rr⟩ := R1.list r e
        exact .inl ⟨a, rfl, ⟨xs, .inl (.inl hx)⟩, q1 _ H1 ι1 T1 R1 (itok_list hi)⟩
    · rcases q1 with q1 | q1 | q1
      · obtain ⟨a, e1, ⟨xs, hq⟩, q⟩ := q1
        subst e1
        cases r1
        obtain ⟨its, rv, p, hz⟩ := I1.list hq
        refine wpAny_pyIter_list p.isList ?_
        refine ⟨s1.heap.objs.size, [s1.heap.objs.size], _, _, H1, rfl, I1.kept (t' := s1.toks) fun b o e => Heap.get?_push_of_some _ e, turn_list a _, ⟨_, Heap.get?_push_size _ rfl, rfl, rfl⟩, fun b hb => ?_, q⟩
        have e : b = s1.heap.objs.size := by simpa using hb
        subst e
        exact I1.fpOk (Nat.le_refl _) (I1.hok.fresh (Nat.le_refl _))
      · obtain ⟨a, e1, ⟨xs, hq⟩, q⟩ := q1
        subst e1
        cases r1
        obtain ⟨its, rv, p, hz⟩ := I1.tuple hq
        refine wpAny_pyIter_tuple (show s1.heap.IsTuple a its.toArray from p) ?_
        refine ⟨s1.heap.objs.size, [s1.heap.objs.size], _, _, H1, rfl, I1.kept (t' := s1.toks) fun b o e => Heap.get?_push_of_some _ e, turn_tuple a _, ⟨_, Heap.get?_push_size _ rfl, rfl, rfl⟩, fun b hb => ?_, q⟩
        have e : b = s1.heap.objs.size := by simpa using hb
        subst e
        exact I1.fpOk (Nat.le_refl _) (I1.hok.fresh (Nat.le_refl _))
      · obtain ⟨x, ex, q⟩ := q1
        subst ex
        obtain ⟨t, rfl⟩ := r1
        cases ha : x.cps.all (· < 128)
        · exact wpAny_pyIter_wide ha (pi_one (tk := s1.toks) I1 _ (turn_str _ x t "str_iterator" (.inr rfl)) ⟨_, Heap.get?_push_size _ rfl, rfl, rfl⟩ q)
        · exact wpAny_pyIter_ascii ha (pi_one (tk := s1.toks) I1 _ (turn_str _ x t "str_ascii_iterator" (.inl rfl)) ⟨_, Heap.get?_push_size _ rfl, rfl, rfl⟩ q)
end
end WW


set_option Elab.async false
set_option linter.all false
set_option maxRecDepth 100000
set_option maxHeartbeats 4000000
set_option autoImplicit false
namespace WW
open PySem PySem.Spec PyProof.Rows L2

section
variable {X : Cx} {tg : Expr} {p pos : Pos} {a b c : Expr} {wr : WA}
theorem rngD_iff {ds : List D} {Q : Src → Prop} (q : rngD ds Q) : (∃ j, ds = [.int j] ∧ (-(2 ^ 62) ≤ j ∧ j < 2 ^ 62) ∧ Q ⟨(List.range j.toNat).map fun k => .int ((0 : Int) + (k : Nat)), fun _ => True⟩) ∨
    (∃ i j, ds = [.int i, .int j] ∧ (-(2 ^ 62) ≤ i ∧ i < 2 ^ 62 ∧ -(2 ^ 62) ≤ j ∧ j < 2 ^ 62) ∧ Q ⟨(List.range (j - i).toNat).map fun k => .int (i + (k : Nat)), fun _ => True⟩) ∨
    (∃ i j c n, ds = [.int i, .int j, .int c] ∧ RgC i j c n ∧ Q ⟨(List.range n).map fun k => .int (i + (k : Nat) * c), fun _ => True⟩) := by
  unfold rngD at q
  split at q
  · exact .inl ⟨_, rfl, q⟩
  · exact .inr (.inl ⟨_, _, rfl, q⟩)
  · obtain ⟨n, q⟩ := q
    exact .inr (.inr ⟨_, _, _, n, rfl, q⟩)
  · exact q.elim
theorem rngD_mono {ds : List D} {Q Q' : Src → Prop} (h : ∀ s, Q s → Q' s) (q : rngD ds Q) : rngD ds Q' := by
  rcases rngD_iff q with ⟨j, rfl, c, q⟩ | ⟨i, j, rfl, c, q⟩ | ⟨i, j, c, n, rfl, g, q⟩
  · exact ⟨c, h _ q⟩
  · exact ⟨c, h _ q⟩
  · exact ⟨n, g, h _ q⟩
theorem wRng_mono (m : MonoA wr) : MonoI (wRng wr) := fun ρ S Q Q' h q => m _ _ _ _ (fun ds S1 q1 => rngD_mono (fun s => h s S1) q1) q
theorem repVs1 {K : KF} {H : Hp} {ι : List Addr} {i : Int} {vs : List V} (h : RepVs K H ι [.int i] vs) : vs = [.int i] := by
  obtain ⟨x, r, rfl, h1, h2⟩ := h
  cases h1
  cases h2
  rfl
theorem repVs2 {K : KF} {H : Hp} {ι : List Addr} {i j : Int} {vs : List V} (h : RepVs K H ι [.int i, .int j] vs) : vs = [.int i, .int j] := by
  obtain ⟨x, r, rfl, h1, h2⟩ := h
  cases h1
  rw [repVs1 h2]
theorem repVs3 {K : KF} {H : Hp} {ι : List Addr} {i j k : Int} {vs : List V} (h : RepVs K H ι [.int i, .int j, .int k] vs) : vs = [.int i, .int j, .int k] := by
  obtain ⟨x, r, rfl, h1, h2⟩ := h
  cases h1
  rw [repVs2 h2]
theorem pw_rng1 (hg : Gl X "range") (hm : X.mg "range" = none) (ha : PAw X [a] wr) (hw : ∀ ρ S Q, wr ρ S Q → wr ρ S fun ds S' => ds.length = 1 ∧ Q ds S') (hs : starEach [a] X.env = [(false, eval a X.env)]) : PIw X tg (.Call (.Name "range" p) [a] [] pos) (wRng wr) where
  mono := wRng_mono ha.mono
  pi := fun Y tk => PI.weak (pi_range1 hg hm (ha.pe Y tk) hs) fun σ H Q ⟨ρ, ι, S, E, R, q⟩ => tA_k ha.mono E R (hw _ _ _ q) fun ds S1 vs H1 ι1 T1 R1 rs E1 ⟨hl, q1⟩ => by
    rcases rngD_iff q1 with ⟨j, rfl, h, q⟩ | ⟨i, j, rfl, h, q⟩ | ⟨i, j, c, n, rfl, h, q⟩
    · rw [repVs1 rs]
      exact ⟨j, rfl, h.1, h.2, q _ H1 ι1 T1 R1 itok_rng⟩
    · simp at hl
    · simp at hl
theorem pw_rng2 (hg : Gl X "range") (hm : X.mg "range" = none) (ha : PAw X [a, b] wr) (hw : ∀ ρ S Q, wr ρ S Q → wr ρ S fun ds S' => ds.length = 2 ∧ Q ds S') (hs : starEach [a, b] X.env = [(false, eval a X.env), (false, eval b X.env)]) (hs2 : starEach [b] X.env = [(false, eval b X.env)]) : PIw X tg (.Call (.Name "range" p) [a, b] [] pos) (wRng wr) where
  mono := wRng_mono ha.mono
  pi := fun Y tk => PI.weak (pi_range2 hg hm (ha.pe Y tk) hs hs2) fun σ H Q ⟨ρ, ι, S, E, R, q⟩ => tA_k ha.mono E R (hw _ _ _ q) fun ds S1 vs H1 ι1 T1 R1 rs E1 ⟨hl, q1⟩ => by
    rcases rngD_iff q1 with ⟨j, rfl, h, q⟩ | ⟨i, j, rfl, h, q⟩ | ⟨i, j, c, n, rfl, h, q⟩
    · simp at hl
    · rw [repVs2 rs]
      exact ⟨i, j, rfl, h, q _ H1 ι1 T1 R1 itok_rng⟩
    · simp at hl
theorem pw_rng3 (hg : Gl X "range") (hm : X.mg "range" = none) (ha : PAw X [a, b, c] wr) (hw : ∀ ρ S Q, wr ρ S Q → wr ρ S fun ds S' => ds.length = 3 ∧ Q ds S') (hs : starEach [a, b, c] X.env = (false, eval a X.env) :: starEach [b, c] X.env) (hpl : (backTo pos (starEach [b, c] X.env)).any (·.1) = false) : PIw X tg (.Call (.Name "range" p) [a, b, c] [] pos) (wRng wr) where
  mono := wRng_mono ha.mono
  pi := fun Y tk => PI.weak (pi_range3 hg hm (ha.pe Y tk) hs hpl) fun σ H Q ⟨ρ, ι, S, E, R, q⟩ => tA_k ha.mono E R (hw _ _ _ q) fun ds S1 vs H1 ι1 T1 R1 rs E1 ⟨hl, q1⟩ => by
    rcases rngD_iff q1 with ⟨j, rfl, h, q⟩ | ⟨i, j, rfl, h, q⟩ | ⟨i, j, c, n, rfl, h, q⟩
    · simp at hl
    · simp at hl
    · rw [repVs3 rs]
      exact ⟨i, j, c, n, rfl, h, q _ H1 ι1 T1 R1 itok_rngC⟩

/-! ### enumerate of a list -/
def enumD : Nat → List D → List D
  | _, [] => []
  | k, d :: r => .tup [.int (k : Nat), d] :: enumD (k + 1) r
theorem enumD_get : ∀ (ds : List D) (k i : Nat), (enumD k ds)[i]? = ds[i]?.map fun d => .tup [.int ((k + i : Nat) : Int), d]
  | [], k, i => by simp [enumD]
  | d :: r, k, 0 => by simp [enumD]
  | d :: r, k, i + 1 => by
    show (enumD (k + 1) r)[i]? = _
    rw [enumD_get r (k + 1) i, List.getElem?_cons_succ]
    have e : k + 1 + i = k + (i + 1) := by omega
    rw [e]
theorem enumD_len : ∀ (ds : List D) (k : Nat), (enumD k ds).length = ds.length
  | [], _ => rfl
  | d :: r, k => by
    show (enumD (k + 1) r).length + 1 = r.length + 1
    rw [enumD_len r]
def enumSrc : D → Sto → (Src → Prop) → Prop
  | .ref n, S, Q => ∃ ds, S[n]? = some (.lst ds) ∧ Q ⟨enumD 0 ds, fun S' => S'[n]? = some (.lst ds)⟩
  | .fro ds, _, Q => Q ⟨enumD 0 ds, fun _ => True⟩
  | _, _, _ => False
def enum1 : List D → Sto → (Src → Prop) → Prop
  | [d], S, Q => enumSrc d S Q
  | _, _, _ => False
def wEnum (a : WA) : WI := fun ρ S Q => a ρ S fun ds S1 => enum1 ds S1 fun s => Q s S1
theorem itok_enum {K : KF} {H : Hp} {ι : List Addr} {a : Addr} {ds : List D} {st : Sto → Prop}
    (h : ∀ H1 ι1 S1, Tr H ι H1 ι1 → RepS K H1 ι1 S1 → st S1 → ∃ xs, SqL K.K H1 a xs ∧ RepVs K H1 ι1 ds xs) : ItOk K H ι (Ite K.K a) ⟨enumD 0 ds, st⟩ := fun i H1 ι1 S1 T R hs => by
  obtain ⟨xs, hq, r⟩ := h H1 ι1 S1 T R hs
  refine ⟨fun d hd => ?_, fun hl => ⟨xs, hq, by rw [← r.length, ← enumD_len ds 0]; exact hl⟩⟩
  rw [show (Src.mk (enumD 0 ds) st).items = enumD 0 ds from rfl, enumD_get] at hd
  cases q : ds[i]? with
  | none => rw [q] at hd; cases hd
  | some e =>
    rw [q] at hd
    cases hd
    obtain ⟨x, hx, rx⟩ := r.get q
    refine ⟨⟨xs, x, hq, hx⟩, fun y H' hy => ?_⟩
    obtain ⟨T', x', rfl, hT, rfl, f⟩ := hy
    have := f xs hq
    rw [hx] at this
    cases this
    refine ⟨Tr.new R hT, RepS.new R hT, T', _, rfl, upd_same, _, _, rfl, ?_, _, _, rfl, RepV.tr R (Tr.new R hT) _ _ rx, rfl⟩
    show V.int (i : Nat) = V.int ((0 + i : Nat) : Int)
    rw [Nat.zero_add]
theorem enumSrc_mono {d : D} {S : Sto} {Q Q' : Src → Prop} (h : ∀ s, Q s → Q' s) (q : enumSrc d S Q) : enumSrc d S Q' := by
  cases d <;> first | exact q.elim | exact h _ q | exact let ⟨ds, a, b⟩ := q; ⟨ds, a, h _ b⟩
theorem pw_enum {elts : List Expr} {kk : Nat} {tpos : Pos} (hg : Gl X "enumerate") (hm : X.mg "enumerate" = none) (ha : PAw X [a] wr) (hs : starEach [a] X.env = [(false, eval a X.env)]) : PIw X (.Tuple elts kk tpos) (.Call (.Name "enumerate" p) [a] [] pos) (wEnum wr) where
  mono := fun ρ S Q Q' h q => ha.mono _ _ _ _ (fun ds S1 q1 => by
    match ds, q1 with
    | [d], q1 => exact enumSrc_mono (fun s => h s S1) q1) q
  pi := fun Y tk => PI.weak (pi_enum hg hm (ha.pe Y tk) hs) fun σ H Q ⟨ρ, ι, S, E, R, q⟩ => tA_k ha.mono E R q fun ds S1 vs H1 ι1 T1 R1 rs E1 q1 => by
    match ds, q1 with
    | [d], q1 =>
      obtain ⟨v, r, rfl, rv, rr⟩ := rs
      cases rr
      cases d <;> try exact q1.elim
      · rename_i ds
        obtain ⟨a, xs, rfl, hx, rr⟩ := rv
        exact ⟨a, xs, rfl, hx.sq, q1 _ H1 ι1 T1 R1 (itok_enum fun H2 ι2 S2 T R2 _ => ⟨xs, (SqK.tr R1 T hx).sq, RepVs.tr R1 T _ _ rr⟩)⟩
      · rename_i n
        obtain ⟨ds, e, q1⟩ := q1
        obtain ⟨a, xs, rfl, hi, hx, rr⟩ := R1.list rv e
        refine ⟨a, xs, rfl, .inl (.inl hx), q1 _ H1 ι1 T1 R1 (itok_enum fun H2 ι2 S2 T R2 st => ?_)⟩
        obtain ⟨_, e1, ys, rfl, r1⟩ := R2.ob n a _ (T.get hi) st
        exact ⟨ys, .inl (.inl e1), r1⟩
end

/-! ### statements -/
def MonoS (w : WS) : Prop := ∀ ρ S (k k' : KK), k'.ex = k.ex → (∀ ρ S, k.nx ρ S → k'.nx ρ S) → (∀ d S, k.rt d S → k'.rt d S) → (∀ ρ S, k.bk ρ S → k'.bk ρ S) → (∀ ρ S, k.ct ρ S → k'.ct ρ S) → w k ρ S → w k' ρ S
theorem en_eq {k k' : KK} (e : k'.ex = k.ex) (ρ : Rho) : k'.en ρ = k.en ρ := by
  unfold KK.en
  rw [e]
def EnS (K : KF) (H : Hp) (ι : List Addr) (P : Rho → Sto → Prop) (D : L2.St → Hp → Prop) : Prop := ∀ ρ S σ H' ι', Tr H ι H' ι' → RepS K H' ι' S → RepR K H' ι' σ ρ → P ρ S → D σ H'
def EnR (K : KF) (H : Hp) (ι : List Addr) (P : Q1) (D : VK) : Prop := ∀ d S v H' ι', Tr H ι H' ι' → RepS K H' ι' S → RepV K H' ι' d v → P d S → D v H'
def EnE (K : KF) (Y : WX) (H : Hp) (ι : List Addr) (x : XE) : Prop := ∀ c fs ρ S σ H' ι' cls d, Tr H ι H' ι' → RepS K H' ι' S → RepR K H' ι' σ ρ → XRep K H' ι' c fs cls d → x c fs ρ S → Y cls d σ H'
structure Ed (K : KF) (Y : WX) (H : Hp) (ι : List Addr) (k : KK) (E : Ends) : Prop where
  nx : EnS K H ι k.nx E.nx
  rt : EnR K H ι k.rt E.rt
  bk : EnS K H ι k.bk E.bk
  ct : EnS K H ι k.ct E.ct
  ex : EnE K Y H ι k.ex
def tS (K : KF) (Y : WX) (w : WS) : TS := fun E σ H => ∃ k ρ ι S, RepR K H ι σ ρ ∧ RepS K H ι S ∧ Ed K Y H ι k E ∧ w k ρ S
structure PSw (X : Cx) (st : Stmt) (w : WS) : Prop where
  mono : MonoS w
  ps : ∀ Y, Takes X Y → PS X st (tS (kf X) Y w)
structure PBw (X : Cx) (sts : List Stmt) (w : WS) : Prop where
  mono : MonoS w
  ps : ∀ Y, Takes X Y → PSs X sts (tS (kf X) Y w)
theorem PS.weak {X : Cx} {st : Stmt} {t t' : TS} (h : PS X st t) (w : ∀ E σ H, t' E σ H → t E σ H) : PS X st t' := ⟨fun pins s σ H E I q => h.run pins s σ H E I (w E σ H q)⟩
theorem PSs.weak {X : Cx} {st : List Stmt} {t t' : TS} (h : PSs X st t) (w : ∀ E σ H, t' E σ H → t E σ H) : PSs X st t' := ⟨fun pins s σ H E I q => h.run pins s σ H E I (w E σ H q)⟩
theorem PS.or {X : Cx} {st : Stmt} {t t' : TS} (h : PS X st t) (g : PS X st t') : PS X st (fun E σ H => t E σ H ∨ t' E σ H) := ⟨fun pins s σ H E I q => q.elim (h.run pins s σ H E I) (g.run pins s σ H E I)⟩
theorem PE.or {X : Cx} {e : Expr} {t t' : TE} (h : PE X e t) (g : PE X e t') : PE X e (fun σ H Q => t σ H Q ∨ t' σ H Q) := ⟨fun pins s σ H Q I q => q.elim (h.run pins s σ H Q I) (g.run pins s σ H Q I)⟩
section
variable {K : KF} {H H' : Hp} {ι ι' : List Addr} {k : KK} {E : Ends}
theorem EnS.tr {P : Rho → Sto → Prop} {D : L2.St → Hp → Prop} (h : EnS K H ι P D) (T : Tr H ι H' ι') : EnS K H' ι' P D := fun ρ S σ H2 ι2 T2 R E p => h ρ S σ H2 ι2 (T.trans T2) R E p
theorem EnR.tr {P : Q1} {D : VK} (h : EnR K H ι P D) (T : Tr H ι H' ι') : EnR K H' ι' P D := fun ρ S σ H2 ι2 T2 R E p => h ρ S σ H2 ι2 (T.trans T2) R E p
theorem EnE.tr {Y : WX} {x : XE} (h : EnE K Y H ι x) (T : Tr H ι H' ι') : EnE K Y H' ι' x := fun c fs ρ S σ H2 ι2 cls d T2 => h c fs ρ S σ H2 ι2 cls d (T.trans T2)
theorem Ed.tr {Y : WX} (h : Ed K Y H ι k E) (T : Tr H ι H' ι') : Ed K Y H' ι' k E := ⟨h.nx.tr T, h.rt.tr T, h.bk.tr T, h.ct.tr T, h.ex.tr T⟩
theorem Ed.en {Y : WX} {σ : L2.St} {ρ : Rho} {S : Sto} (h : Ed K Y H ι k E) (R : RepS K H ι S) (r : RepR K H ι σ ρ) : RepE K Y H ι σ (k.en ρ) :=
  ⟨r, fun c fs S' H' ι' cls d T R' xr q => h.ex c fs ρ S' σ H' ι' cls d T R' (r.tr R T) xr q⟩
end
def wAsg (i : Nat) (w : W) : WS := fun k ρ S => w (k.en ρ) S fun d S1 => k.nx (putR ρ i (some d)) S1
def wAsgP (p : Pat) (w : W) : WS := fun k ρ S => w (k.en ρ) S fun d S1 => gv (bindP p d ρ) fun ρ' => k.nx ρ' S1
/-- the store behind d[y] = v -/
def dPut (n : Nat) (y v : D) (S : Sto) (Q : Sto → Prop) : Prop :=
  (∃ kvs k, S[n]? = some (.dK false kvs) ∧ keyD y = some k ∧ kvs.length < sizeLine ∧ Q (S.set n (.dK false (putA kvs k v)))) ∨ ∃ kvs k, S[n]? = some (.dT false kvs) ∧ keyT y = some k ∧ kvs.length < sizeLine ∧ Q (S.set n (.dT false (putA kvs k v)))
def setD : D → D → D → Sto → (Sto → Prop) → Prop
  | .ref n, y, v, S, Q => (∃ ds i, y = .int i ∧ S[n]? = some (.lst ds) ∧ gv (ixN ds.length i) fun j => Q (S.set n (.lst (ds.set j v)))) ∨ dPut n y v S Q
  | _, _, _, _, _ => False
theorem setD_mono {x y v : D} {S : Sto} {Q Q' : Sto → Prop} (h : ∀ S, Q S → Q' S) (q : setD x y v S Q) : setD x y v S Q' := by
  cases x <;> try exact q.elim
  rcases q with ⟨ds, i, e0, e1, z⟩ | ⟨kvs, k, a, b, c, d⟩ | ⟨kvs, k, a, b, c, d⟩
  · obtain ⟨j, e2, z⟩ := gv_iff.mp z
    exact .inl ⟨ds, i, e0, e1, gv_iff.mpr ⟨j, e2, h _ z⟩⟩
  · exact .inr (.inl ⟨kvs, k, a, b, c, h _ d⟩)
  · exact .inr (.inr ⟨kvs, k, a, b, c, h _ d⟩)
def wSet (o i v : W) : WS := fun k ρ S => v (k.en ρ) S fun y S1 => o (k.en ρ) S1 fun x S2 => i (k.en ρ) S2 fun z S3 => setD x z y S3 fun S4 => k.nx ρ S4
def wDrop (w : W) : WS := fun k ρ S => w (k.en ρ) S fun _ S1 => k.nx ρ S1
def wRet (w : W) : WS := fun k ρ S => w (k.en ρ) S k.rt
def wRetN : WS := fun k _ S => k.rt .non S
def wBrk : WS := fun k ρ S => k.bk ρ S
def wCnt : WS := fun k ρ S => k.ct ρ S
def wPas : WS := fun k ρ S => k.nx ρ S
def wSq (a b : WS) : WS := fun k ρ S => a { k with nx := b k } ρ S
def wIfS (t : WT) (a b : WS) : WS := fun k ρ S => t (k.en ρ) S fun c S1 => if c = true then a k ρ S1 else b k ρ S1
def wIt (t : WT) (b : WS) (k : KK) : Nat → Rho → Sto → Prop
  | 0, _, _ => False
  | m + 1, ρ, S => t (k.en ρ) S fun c S1 => if c = true then b { k with nx := wIt t b k m, ct := wIt t b k m, bk := k.nx } ρ S1 else k.nx ρ S1
def wWhl (t : WT) (b : WS) : WS := fun k ρ S => ∃ m, wIt t b k m ρ S
def forGo (st : Sto → Prop) (p : Pat) (b : WS) (k : KK) : List D → Rho → Sto → Prop
  | [], ρ, S => st S ∧ k.nx ρ S
  | d :: r, ρ, S => st S ∧ gv (bindP p d ρ) fun ρ' => b { k with nx := forGo st p b k r, ct := forGo st p b k r, bk := k.nx } ρ' S
def wFor (wi : WI) (p : Pat) (b : WS) : WS := fun k ρ S => wi (k.en ρ) S fun s S1 => forGo s.stab p b k s.items ρ S1
section
variable {X : Cx} {e c : Expr} {w : W} {pos : Pos} {u t : WS}
theorem pw_ret (h : PEw X e w) : PSw X (.Return (some e) pos) (wRet w) where
  mono := fun ρ S k k' e h1 h2 h3 h4 q => by
    show w (k'.en ρ) S k'.rt
    rw [en_eq e]
    exact h.mono _ _ _ _ h2 q
  ps := fun Y tk => PS.weak (ps_ret (h.pe Y tk)) fun E σ H ⟨k, ρ, ι, S, Er, R, D, q⟩ => tE_k h.mono (D.en R Er) R q fun d S1 v H1 ι1 T1 R1 r E1 q1 => D.rt d S1 v H1 ι1 T1 R1 r q1
theorem pw_retN : PSw X (.Return none pos) wRetN where
  mono := fun ρ S k k' e h1 h2 h3 h4 q => h2 _ _ q
  ps := fun Y tk => PS.weak ps_retN fun E σ H ⟨k, ρ, ι, S, Er, R, D, q⟩ => D.rt .non S .non H ι (Tr.refl _ _) R rfl q
theorem pw_drop (h : PEw X e w) (hs : swapsWith e none pos.line X.env = pure false) : PSw X (.Expr e pos) (wDrop w) where
  mono := fun ρ S k k' e h1 h2 h3 h4 q => by
    show w (k'.en ρ) S _
    rw [en_eq e]
    exact h.mono _ _ _ _ (fun d S' z => h1 _ _ z) q
  ps := fun Y tk => PS.weak (ps_expr (h.pe Y tk) hs) fun E σ H ⟨k, ρ, ι, S, Er, R, D, q⟩ => tE_k h.mono (D.en R Er) R q fun d S1 v H1 ι1 T1 R1 r E1 q1 => D.nx ρ S1 σ H1 ι1 T1 R1 E1.r q1
theorem pw_brk : PSw X (.Break pos) wBrk where
  mono := fun ρ S k k' e h1 h2 h3 h4 q => h3 _ _ q
  ps := fun Y tk => PS.weak ps_break fun E σ H ⟨k, ρ, ι, S, Er, R, D, q⟩ => D.bk ρ S σ H ι (Tr.refl _ _) R Er q
theorem pw_cnt : PSw X (.Continue pos) wCnt where
  mono := fun ρ S k k' e h1 h2 h3 h4 q => h4 _ _ q
  ps := fun Y tk => PS.weak ps_continue fun E σ H ⟨k, ρ, ι, S, Er, R, D, q⟩ => D.ct ρ S σ H ι (Tr.refl _ _) R Er q
theorem pw_pas : PSw X (.Pass pos) wPas where
  mono := fun ρ S k k' e h1 h2 h3 h4 q => h1 _ _ q
  ps := fun Y tk => PS.weak ps_pass fun E σ H ⟨k, ρ, ι, S, Er, R, D, q⟩ => D.nx ρ S σ H ι (Tr.refl _ _) R Er q
theorem pw_sNil : PBw X [] wPas where
  mono := fun ρ S k k' e h1 h2 h3 h4 q => h1 _ _ q
  ps := fun Y tk => PSs.weak pss_nil fun E σ H ⟨k, ρ, ι, S, Er, R, D, q⟩ => D.nx ρ S σ H ι (Tr.refl _ _) R Er q
theorem pw_sOne {st : Stmt} (h : PSw X st u) : PBw X [st] u := ⟨h.mono, fun Y tk => pss_one (h.ps Y tk)⟩
theorem pw_sCons {st : Stmt} {r : List Stmt} (h : PSw X st u) (g : PBw X r t) : PBw X (st :: r) (wSq u t) where
  mono := fun ρ S k k' e h1 h2 h3 h4 q => h.mono ρ S { k with nx := t k } { k' with nx := t k' } e (fun ρ S z => g.mono _ _ _ _ e h1 h2 h3 h4 z) h2 h3 h4 q
  ps := fun Y tk => PSs.weak (pss_cons (h.ps Y tk) (g.ps Y tk)) fun E σ H ⟨k, ρ, ι, S, Er, R, D, q⟩ =>
    ⟨{ k with nx := t k }, ρ, ι, S, Er, R, ⟨fun ρ1 S1 σ1 H1 ι1 T1 R1 E1 q1 => ⟨k, ρ1, ι1, S1, E1, R1, D.tr T1, q1⟩, D.rt, D.bk, D.ct, D.ex⟩, q⟩
theorem pw_ifS {a b : List Stmt} {wt : WT} (hc : PTw X c wt) (ha : PBw X a u) (hb : PBw X b t) : PSw X (.If c a b pos) (wIfS wt u t) where
  mono := fun ρ S k k' e h1 h2 h3 h4 q => by
    show wt (k'.en ρ) S _
    rw [en_eq e]
    refine hc.mono _ _ _ _ (fun d S' z => ?_) q
    cases d with
    | true => exact ha.mono _ _ _ _ e h1 h2 h3 h4 z
    | false => exact hb.mono _ _ _ _ e h1 h2 h3 h4 z
  ps := fun Y tk => PS.weak (ps_if (hc.pe Y tk) (ha.ps Y tk) (hb.ps Y tk)) fun E σ H ⟨k, ρ, ι, S, Er, R, D, q⟩ => tT_k hc.mono (D.en R Er) R q fun d S1 H1 ι1 T1 R1 E1 q1 => by
    cases d with
    | true => exact ⟨k, ρ, ι1, S1, E1.r, R1, D.tr T1, q1⟩
    | false => exact ⟨k, ρ, ι1, S1, E1.r, R1, D.tr T1, q1⟩
theorem pw_asg {i : Nat} {x : Str} {pos' : Pos} (hN : X.N.Nodup) (hi : X.N[i]? = some x) (hx : Loc X.env.scope x) (h : PEw X e w) (hs : swapsWith e (some (.Name x pos')) pos.line X.env = pure false) (hf : X.fn x = true ∨ X.env.scope.names.lookup x = some .local) :
    PSw X (.Assign [.Name x pos'] e pos) (wAsg i w) where
  mono := fun ρ S k k' e h1 h2 h3 h4 q => by
    show w (k'.en ρ) S _
    rw [en_eq e]
    exact h.mono _ _ _ _ (fun d S' z => h1 _ _ z) q
  ps := fun Y tk => PS.weak (ps_set hN hi hx (h.pe Y tk) hs hf) fun E σ H ⟨k, ρ, ι, S, Er, R, D, q⟩ => tE_k h.mono (D.en R Er) R q fun d S1 v H1 ι1 T1 R1 r E1 q1 => D.nx _ S1 _ H1 ι1 T1 R1 (E1.r.put r) q1
theorem wAsgP_mono {p : Pat} (h : MonoW w) : MonoS (wAsgP p w) := fun ρ S k k' e h1 h2 h3 h4 q => by
  show w (k'.en ρ) S _
  rw [en_eq e]
  refine h _ _ _ _ (fun d S' z => ?_) q
  obtain ⟨ρ', e, z⟩ := gv_iff.mp z
  exact gv_iff.mpr ⟨ρ', e, h1 _ _ z⟩
theorem pw_asgP {tg : Expr} {p : Pat} (hg : PG X tg (gP X.K p)) (h : PEw X e w) (hs : swapsWithSole [tg] e pos.line X.env = pure false) (hw : swappedStores [tg] e X.env = pure none)
    (h1 : (assignEach [tg] X.env).map (·.2) = [assign tg X.env]) : PSw X (.Assign [tg] e pos) (wAsgP p w) where
  mono := wAsgP_mono h.mono
  ps := fun Y tk => PS.weak (ps_asg (h.pe Y tk) hg hs hw h1) fun E σ H ⟨k, ρ, ι, S, Er, R, D, q⟩ => tE_k h.mono (D.en R Er) R q fun d S1 v H1 ι1 T1 R1 r E1 q1 => by
    obtain ⟨ρ', e, q2⟩ := gv_iff.mp q1
    exact bindP_S (K := kf X) e E1.r r fun σ' E' _ => D.nx ρ' S1 σ' H1 ι1 T1 R1 E' q2
def rSetDct : TSet := fun o i v H Q => ∃ a H', o = .ref a ∧ DPut H a i v H' ∧ Q H'
theorem set_dct (hu : X.A.units + 1 < cLine) : PSet X rSetDct := by
  intro pins s σ H o i v ov iv u Q I ro ri rv h
  obtain ⟨a, H', rfl, g, q⟩ := h
  obtain rfl : ov = Value.ref a := ro
  exact d_setItem hu I g ri rv fun s' I' => ⟨H', I', q⟩
theorem PSet.or {r r' : TSet} (h : PSet X r) (h' : PSet X r') : PSet X (fun o i v H Q => r o i v H Q ∨ r' o i v H Q) := by
  intro pins s σ H o i v ov iv u Q I ro ri rv q
  rcases q with q | q
  · exact h pins s σ H o i v ov iv u Q I ro ri rv q
  · exact h' pins s σ H o i v ov iv u Q I ro ri rv q
theorem pw_setS {o ix : Expr} {wo wi : W} {spos : Pos} (hu : X.A.units + 1 < cLine) (ho : PEw X o wo) (hi : PEw X ix wi) (h : PEw X e w)
    (ha : ∀ v, assign (.Subscript o ix spos) X.env v = (do
      let ov ← holding [v] (eval o X.env)
      let iv ← holding [v, ov] (eval ix X.env)
      standAt spos
      holding [v, ov, iv] (setItem ov iv v)
      release [v, ov, iv] []))
    (hs : swapsWithSole [.Subscript o ix spos] e pos.line X.env = pure false) (hw : swappedStores [.Subscript o ix spos] e X.env = pure none)
    (h1 : (assignEach [.Subscript o ix spos] X.env).map (·.2) = [assign (.Subscript o ix spos) X.env]) : PSw X (.Assign [.Subscript o ix spos] e pos) (wSet wo wi w) where
  mono := fun ρ S k k' e h1 h2 h3 h4 q => by
    show w (k'.en ρ) S _
    rw [en_eq e]
    exact h.mono _ _ _ _ (fun d S' z => ho.mono _ _ _ _ (fun x S2 z => hi.mono _ _ _ _ (fun y S3 z => setD_mono (fun S4 => h1 _ _) z) z) z) q
  ps := fun Y tk => PS.weak (ps_asg (h.pe Y tk) (pg_sub (ho.pe Y tk) (hi.pe Y tk) (PSet.or set_list (set_dct hu)) ha) hs hw h1) fun E σ H ⟨k, ρ, ι, S, Er, R, D, q⟩ => tE_k h.mono (D.en R Er) R q fun d S1 v H1 ι1 T1 R1 r E1 q1 =>
    tE_k ho.mono E1 R1 q1 fun x S2 vx H2 ι2 T2 R2 rx E2 q2 => tE_k hi.mono E2 R2 q2 fun y S3 vy H3 ι3 T3 R3 ry E3 q3 => by
      cases x <;> try exact q3.elim
      have rd := RepV.tr R2 T3 _ _ (RepV.tr R1 T2 _ _ r)
      have T123 := (T1.trans T2).trans T3
      rcases q3 with ⟨ds, i, rfl, e1, q4⟩ | ⟨kvs, kk, e1, e2, e3, q4⟩ | ⟨kvs, kk, e1, e2, e3, q4⟩
      · cases ry
        obtain ⟨j, e2, q5⟩ := gv_iff.mp q4
        obtain ⟨a, xs, rfl, hi, hx, rr⟩ := R3.list (RepV.tr R2 T3 _ _ rx) e1
        have hn := RepVs.set j rr rd
        exact .inl ⟨a, xs, i, j, rfl, rfl, hx, by rw [← rr.length]; exact e2, D.nx ρ _ σ _ ι3 (T123.trans (Tr.write R3 hi (nfz hx))) (RepS.write R3 hi hn) (E3.r.tr R3 (Tr.write R3 hi (nfz hx))) q5⟩
      · obtain ⟨a, o, rfl, hi, hx, xs, hz, rr⟩ := R3.obj (RepV.tr R2 T3 _ _ rx) e1
        cases (show o = .dK xs from hz)
        refine .inr ⟨a, _, rfl, .inl ⟨xs, kk, hx, keyD_V ry e2, by rw [← rr.length]; exact e3, rfl⟩, ?_⟩
        exact D.nx ρ _ σ _ ι3 (T123.trans (Tr.write R3 hi (nfz hx))) (R3.writeO (u := .dK false (putA kvs kk d)) hi ⟨_, rfl, rr.put rd⟩) (E3.r.tr R3 (Tr.write R3 hi (nfz hx))) q4
      · obtain ⟨a, o, rfl, hi, hx, xs, hz, rr⟩ := R3.obj (RepV.tr R2 T3 _ _ rx) e1
        cases (show o = .dT xs from hz)
        obtain ⟨b, h5, h6⟩ := keyT_V ry e2
        refine .inr ⟨a, _, rfl, .inr ⟨xs, kk, b, hx, h5, h6, by rw [← rr.length]; exact e3, rfl⟩, ?_⟩
        exact D.nx ρ _ σ _ ι3 (T123.trans (Tr.write R3 hi (nfz hx))) (R3.writeO (u := .dT false (putA kvs kk d)) hi ⟨_, rfl, rr.put rd⟩) (E3.r.tr R3 (Tr.write R3 hi (nfz hx))) q4
theorem wIt_mono {wt : WT} (hc : MonoT wt) (hb : MonoS u) : ∀ (m m' : Nat) (k k' : KK) ρ S, m ≤ m' → k'.ex = k.ex → (∀ ρ S, k.nx ρ S → k'.nx ρ S) → (∀ d S, k.rt d S → k'.rt d S) → wIt wt u k m ρ S → wIt wt u k' m' ρ S
  | 0, _, _, _, _, _, _, _, _, _, q => q.elim
  | m + 1, 0, _, _, _, _, h, _, _, _, _ => absurd h (by omega)
  | m + 1, m' + 1, k, k', ρ, S, h, e, h1, h2, q => by
    show wt (k'.en ρ) S _
    rw [en_eq e]
    refine hc _ _ _ _ (fun d S' z => ?_) q
    cases d with
    | true => exact hb _ _ { k with nx := wIt wt u k m, ct := wIt wt u k m, bk := k.nx } { k' with nx := wIt wt u k' m', ct := wIt wt u k' m', bk := k'.nx } e (fun ρ S z => wIt_mono hc hb m m' k k' ρ S (by omega) e h1 h2 z) h2 h1 (fun ρ S z => wIt_mono hc hb m m' k k' ρ S (by omega) e h1 h2 z) z
    | false => exact h1 _ _ z
theorem pw_whl {body : List Stmt} {wt : WT} (hp : PassesOwn (model X.prog X.w) X.A X.env X.xe) (hc : PTw X c wt) (hb : PBw X body u) : PSw X (.While c body [] pos) (wWhl wt u) where
  mono := fun ρ S k k' e h1 h2 h3 h4 ⟨m, q⟩ => ⟨m, wIt_mono hc.mono hb.mono m m k k' ρ S (Nat.le_refl _) e h1 h2 q⟩
  ps := fun Y tk => PS.weak (ps_while hp (hc.pe Y tk) (hb.ps Y tk)) fun E σ H ⟨k, ρ, ι, S, Er, R, D, m, q⟩ => by
    refine ⟨fun m σ' H' => ∃ ρ' ι' S', RepR (kf X) H' ι' σ' ρ' ∧ RepS (kf X) H' ι' S' ∧ Tr H ι H' ι' ∧ wIt wt u k m ρ' S', ⟨m, ρ, ι, S, Er, R, Tr.refl _ _, q⟩, fun m σ' H' ⟨ρ', ι', S', E', R', T', q'⟩ => ?_⟩
    cases m with
    | zero => exact q'.elim
    | succ m =>
      refine tT_k hc.mono ((D.tr T').en R' E') R' q' fun d S1 H1 ι1 T1 R1 E1 q1 => ?_
      cases d with
      | false => exact D.nx ρ' S1 σ' H1 ι1 (T'.trans T1) R1 E1.r q1
      | true =>
        show ∃ N : L2.St → Hp → Prop, _
        refine ⟨fun σ2 H2 => ∃ ρ2 ι2 S2, RepR (kf X) H2 ι2 σ2 ρ2 ∧ RepS (kf X) H2 ι2 S2 ∧ Tr H ι H2 ι2 ∧ wIt wt u k m ρ2 S2, fun σ2 H2 z => ⟨m, Nat.lt_succ_self m, z⟩, ?_⟩
        refine ⟨{ k with nx := wIt wt u k m, ct := wIt wt u k m, bk := k.nx }, ρ', ι1, S1, E1.r, R1, ⟨?_, ?_, ?_, ?_, D.ex.tr (T'.trans T1)⟩, q1⟩
        · exact fun ρ2 S2 σ2 H2 ι2 T2 R2 E2 q2 => ⟨ρ2, ι2, S2, E2, R2, (T'.trans T1).trans T2, q2⟩
        · exact fun d2 S2 v2 H2 ι2 T2 R2 r2 q2 => D.rt d2 S2 v2 H2 ι2 ((T'.trans T1).trans T2) R2 r2 q2
        · exact fun ρ2 S2 σ2 H2 ι2 T2 R2 E2 q2 => D.nx ρ2 S2 σ2 H2 ι2 ((T'.trans T1).trans T2) R2 E2 q2
        · exact fun ρ2 S2 σ2 H2 ι2 T2 R2 E2 q2 => ⟨ρ2, ι2, S2, E2, R2, (T'.trans T1).trans T2, q2⟩
theorem forGo_mono {st : Sto → Prop} {p : Pat} (hb : MonoS u) : ∀ (ds : List D) (k k' : KK) ρ S, k'.ex = k.ex → (∀ ρ S, k.nx ρ S → k'.nx ρ S) → (∀ d S, k.rt d S → k'.rt d S) → forGo st p u k ds ρ S → forGo st p u k' ds ρ S
  | [], _, _, _, _, _, h1, _, q => ⟨q.1, h1 _ _ q.2⟩
  | d :: r, k, k', ρ, S, ee, h1, h2, ⟨q1, q2⟩ => by
    obtain ⟨ρ', e, q⟩ := gv_iff.mp q2
    exact ⟨q1, gv_iff.mpr ⟨ρ', e, hb _ _ { k with nx := forGo st p u k r, ct := forGo st p u k r, bk := k.nx } { k' with nx := forGo st p u k' r, ct := forGo st p u k' r, bk := k'.nx } ee (fun ρ S z => forGo_mono hb r k k' ρ S ee h1 h2 z) h2 h1 (fun ρ S z => forGo_mono hb r k k' ρ S ee h1 h2 z) q⟩⟩
theorem forGo_st {st : Sto → Prop} {p : Pat} {k : KK} {ds : List D} {ρ : Rho} {S : Sto} (q : forGo st p u k ds ρ S) : st S := by
  cases ds <;> exact q.1
/-- the loop over what a walk J yields -/
def forJ (g : TG) (tb : TS) (D : Ends) (J : It) (σ : L2.St) (H1 : Hp) : Prop := ∃ W : Nat → Nat → L2.St → Hp → Prop, (∃ m, W 0 m σ H1) ∧ ∀ i m σ H, W i m σ H →
  (J.stop i H ∧ D.nx σ H) ∨ (J.go i H ∧ ∃ N : L2.St → Hp → Prop, (∀ σ' H', N σ' H' → ∃ m', m' < m ∧ W (i + 1) m' σ' H') ∧ ∀ x H', J.yld i H x H' → g x σ H' fun σ2 H2 => tb { D with nx := N, ct := N, bk := D.nx } σ2 H2)
theorem for_core {Y : WX} {E : Ends} {k : KK} {ρ : Rho} {σ : L2.St} {p : Pat} {s : Src} {J : It} {H1 : Hp} {ι1 : List Addr} {S1 : Sto}
    (D : Ed (kf X) Y H1 ι1 k E) (Er : RepR (kf X) H1 ι1 σ ρ) (R1 : RepS (kf X) H1 ι1 S1) (ok : ItOk (kf X) H1 ι1 J s) (q1 : forGo s.stab p u k s.items ρ S1) : forJ (gP X.K p) (tS (kf X) Y u) E J σ H1 := by
  refine ⟨fun i m σ' H' => i + m = s.items.length ∧ ∃ ρ' ι' S', RepR (kf X) H' ι' σ' ρ' ∧ RepS (kf X) H' ι' S' ∧ Tr H1 ι1 H' ι' ∧ forGo s.stab p u k (s.items.drop i) ρ' S',
    ⟨s.items.length, Nat.zero_add _, ρ, ι1, S1, Er, R1, Tr.refl _ _, q1⟩, fun i m σ' H' ⟨hm, ρ', ι', S', E', R', T', q'⟩ => ?_⟩
  have hst := forGo_st q'
  obtain ⟨o1, o2⟩ := ok i H' ι' S' T' R' hst
  by_cases hl : s.items.length ≤ i
  · left
    rw [List.drop_of_length_le hl] at q'
    exact ⟨o2 hl, D.nx ρ' S' σ' H' ι' T' R' E' q'.2⟩
  · right
    have hl' : i < s.items.length := Nat.lt_of_not_le hl
    have e1 : s.items[i]? = some s.items[i] := List.getElem?_eq_getElem hl'
    obtain ⟨g1, g2⟩ := o1 _ e1
    rw [List.drop_eq_getElem_cons hl'] at q'
    refine ⟨g1, fun σ2 H2 => ∃ ρ2 ι2 S2, RepR (kf X) H2 ι2 σ2 ρ2 ∧ RepS (kf X) H2 ι2 S2 ∧ Tr H1 ι1 H2 ι2 ∧ forGo s.stab p u k (s.items.drop (i + 1)) ρ2 S2, fun σ2 H2 z => ⟨m - 1, by omega, by omega, z⟩, fun x H2 hy => ?_⟩
    obtain ⟨T2, R2, rx⟩ := g2 x H2 hy
    obtain ⟨ρ2, e2, q2⟩ := gv_iff.mp q'.2
    refine bindP_S (K := kf X) e2 (E'.tr R' T2) rx fun σ3 E3 _ => ?_
    refine ⟨{ k with nx := forGo s.stab p u k (s.items.drop (i + 1)), ct := forGo s.stab p u k (s.items.drop (i + 1)), bk := k.nx }, ρ2, ι', S', E3, R2, ⟨?_, ?_, ?_, ?_, D.ex.tr (T'.trans T2)⟩, q2⟩
    · exact fun ρ4 S4 σ4 H4 ι4 T4 R4 E4 q4 => ⟨ρ4, ι4, S4, E4, R4, (T'.trans T2).trans T4, q4⟩
    · exact fun d4 S4 v4 H4 ι4 T4 R4 r4 q4 => D.rt d4 S4 v4 H4 ι4 ((T'.trans T2).trans T4) R4 r4 q4
    · exact fun ρ4 S4 σ4 H4 ι4 T4 R4 E4 q4 => D.nx ρ4 S4 σ4 H4 ι4 ((T'.trans T2).trans T4) R4 E4 q4
    · exact fun ρ4 S4 σ4 H4 ι4 T4 R4 E4 q4 => ⟨ρ4, ι4, S4, E4, R4, (T'.trans T2).trans T4, q4⟩
theorem pw_for {tg iter : Expr} {body : List Stmt} {wi : WI} {p : Pat} (hp : PassesOwn (model X.prog X.w) X.A X.env X.xe) (hcalm : X.calm = true) (hi : PIw X tg iter wi) (hg : PG X tg (gP X.K p)) (hb : PBw X body u)
    (hs : ∀ x, foldedSetIterable iter X.env x = pure x) : PSw X (.For tg iter body [] pos) (wFor wi p u) where
  mono := fun ρ S k k' e h1 h2 h3 h4 q => by
    show wi (k'.en ρ) S _
    rw [en_eq e]
    exact hi.mono _ _ _ _ (fun s S1 q1 => forGo_mono hb.mono _ _ _ _ _ e h1 h2 q1) q
  ps := fun Y tk => PS.weak (ps_for hp hcalm (hi.pi Y tk) hg (hb.ps Y tk) hs) fun E σ H ⟨k, ρ, ι, S, Er, R, D, q⟩ =>
    ⟨k.en ρ, ι, S, D.en R Er, R, hi.mono _ _ _ _ (fun s S1 q1 J H1 ι1 T1 R1 ok => for_core (D.tr T1) (Er.tr R T1) R1 ok q1) q⟩

/-! ### loops over dicts: the dict is locked meanwhile -/
/-- what a walk of a dict gives: keys (0), values (1), pairs (2) -/
def kD : Key → D
  | .inl i => .int i
  | .inr s => .str s
def dItems : Nat → O → Option (List D)
  | 0, .dK _ kvs => some (kvs.map fun kv => kD kv.1)
  | 0, .dT _ kvs => some (kvs.map fun kv => .tup (kv.1.map kD))
  | 1, .dK _ kvs => some (kvs.map (·.2))
  | 2, .dK _ kvs => some (kvs.map fun kv => .tup [kD kv.1, kv.2])
  | _, _ => none
def lockO : Bool → O → O
  | b, .dK _ kvs => .dK b kvs
  | b, .dT _ kvs => .dT b kvs
  | _, o => o
end
end WW


set_option Elab.async false
set_option linter.all false
set_option maxRecDepth 100000
set_option maxHeartbeats 4000000
set_option autoImplicit false
namespace WW
open PySem PySem.Spec PyProof.Rows L2

/-! ### list comprehensions -/
def lcGo (st : Sto → Prop) (p : Pat) (t : WT) (e : W) (ρ0 : Rho) (Q : Q1) : List D → List D → Sto → Prop
  | [], acc, S => st S ∧ Q (.ref S.length) (S ++ [.lst acc])
  | d :: r, acc, S => st S ∧ gv (bindP p d ρ0) fun ρ1 => t (noX, ρ1) S fun b S1 => if b = true then e (noX, ρ1) S1 fun y S2 => acc.length < sizeLine ∧ lcGo st p t e ρ0 Q r (acc ++ [y]) S2 else lcGo st p t e ρ0 Q r acc S1
def wLc (wi : WI) (p : Pat) (t : WT) (e : W) (vs : List Nat) : W := fun ρ S Q => wi ρ S fun s S1 => lcGo s.stab p t e (wipeR ρ.2 vs) Q s.items [] S1
/-- nothing may be raised -/
def noY : WX := fun _ _ _ _ => False
theorem takesNo {X : Cx} : Takes X noY := fun u s' ⟨a, B, sI, pins, σ, H, cls, d, e, I, nb, up, sky, na, os, ag, w⟩ => w.elim
def wYes : WT := fun _ S Q => Q true S
theorem wYes_mono : MonoT wYes := fun ρ S Q Q' h q => h _ _ q
section
variable {K : KF} {H H' : Hp} {ι ι' : List Addr} {S : Sto}
theorem Tr.push (T : Tr H ι H' ι') {a : Addr} (h : a ∈ ι ∨ H a = none) : Tr H ι H' (ι' ++ [a]) := by
  obtain ⟨t, e, ht⟩ := T.ext
  refine ⟨⟨t ++ [a], by rw [e, List.append_assoc], fun b hb => ?_⟩, T.keep, T.frz⟩
  rcases List.mem_append.mp hb with q | q
  · exact ht b q
  · rw [List.mem_singleton] at q
    subst q
    exact h
mutual
theorem RepV.more {a : Addr} : ∀ (d : D) (v : V), RepV K H ι d v → RepV K H (ι ++ [a]) d v
  | .non, _, h => h
  | .bl _, _, h => h
  | .int _, _, h => h
  | .str _, _, h => h
  | .ref n, v, q => by
    obtain ⟨b, h1, h2⟩ := q
    exact ⟨b, by rw [List.getElem?_append_left (List.getElem?_eq_some_iff.mp h1).1]; exact h1, h2⟩
  | .tup ds, v, q => by
    obtain ⟨b, ys, h1, h2, h3⟩ := q
    exact ⟨b, ys, h1, h2, RepVs.more ds ys h3⟩
  | .fro ds, v, q => by
    obtain ⟨b, ys, h1, h2, h3⟩ := q
    exact ⟨b, ys, h1, h2, RepVs.more ds ys h3⟩
theorem RepVs.more {a : Addr} : ∀ (ds : List D) (vs : List V), RepVs K H ι ds vs → RepVs K H (ι ++ [a]) ds vs
  | [], _, q => q
  | d :: ds, vs, q => by
    obtain ⟨x, r, h1, h2, h3⟩ := q
    exact ⟨x, r, h1, RepV.more d x h2, RepVs.more ds r h3⟩
end
/-- an object that stands beside becomes one of the store -/
theorem RepS.push (R : RepS K H ι S) {a : Addr} {xs : List V} {ds : List D} (hn : a ∉ ι) (h : H a = some (.lst xs)) (r : RepVs K H ι ds xs) : RepS K H (ι ++ [a]) (S ++ [.lst ds]) := by
  refine ⟨by simp [R.len], ?_, fun n b u e1 e2 => ?_⟩
  · rw [List.nodup_append]
    refine ⟨R.nd, by simp, fun x hx y hy => ?_⟩
    rw [List.mem_singleton] at hy
    subst hy
    intro e
    subst e
    exact hn hx
  · by_cases hl : n < ι.length
    · rw [List.getElem?_append_left hl] at e1
      rw [List.getElem?_append_left (by rw [← R.len]; exact hl)] at e2
      obtain ⟨o, e, b⟩ := R.ob n b u e1 e2
      exact ⟨o, e, b.mv RepVs.more⟩
    · rw [List.getElem?_append_right (Nat.le_of_not_lt hl)] at e1
      rw [List.getElem?_append_right (by rw [← R.len]; exact Nat.le_of_not_lt hl), ← R.len] at e2
      cases hk : n - ι.length with
      | zero =>
        rw [hk] at e1 e2
        simp at e1 e2
        subst e1
        subst e2
        exact ⟨_, h, xs, rfl, RepVs.more _ _ r⟩
      | succ k =>
        rw [hk] at e1
        simp at e1
end
section
variable {K : KF} {H : Hp} {ι : List Addr} {a : Addr} {zs : List V} {o : HO}
theorem tup_beside {b : Addr} {ys : List V} (h : H a = some (.lst zs)) (q : H b = some (.tup ys)) : (upd H a o) b = some (.tup ys) := by
  rw [upd_ne (fun e => by subst e; rw [h] at q; cases q)]
  exact q
theorem SqK.beside {b : Addr} {ys : List V} (h : H a = some (.lst zs)) (q : SqK K H b ys) : SqK K (upd H a o) b ys := by
  rcases q with ⟨u, q⟩ | q
  · exact .inl ⟨u, by rw [upd_ne (fun e => by subst e; rw [h] at q; cases q)]; exact q⟩
  · exact .inr q
mutual
theorem RepV.beside (hn : a ∉ ι) (h : H a = some (.lst zs)) : ∀ (d : D) (v : V), RepV K H ι d v → RepV K (upd H a o) ι d v
  | .non, _, q => q
  | .bl _, _, q => q
  | .int _, _, q => q
  | .str _, _, q => q
  | .ref n, v, q => q
  | .tup ds, v, q => by
    obtain ⟨b, ys, h1, h2, h3⟩ := q
    exact ⟨b, ys, h1, tup_beside h h2, RepVs.beside hn h ds ys h3⟩
  | .fro ds, v, q => by
    obtain ⟨b, ys, h1, h2, h3⟩ := q
    exact ⟨b, ys, h1, SqK.beside h h2, RepVs.beside hn h ds ys h3⟩
theorem RepVs.beside (hn : a ∉ ι) (h : H a = some (.lst zs)) : ∀ (ds : List D) (vs : List V), RepVs K H ι ds vs → RepVs K (upd H a o) ι ds vs
  | [], _, q => q
  | d :: ds, vs, q => by
    obtain ⟨x, r, h1, h2, h3⟩ := q
    exact ⟨x, r, h1, RepV.beside hn h d x h2, RepVs.beside hn h ds r h3⟩
end
end
section
variable {X : Cx}
theorem lcGo_mono {st : Sto → Prop} {p : Pat} {t : WT} {e : W} {ρ0 : Rho} (mt : MonoT t) (me : MonoW e) : ∀ (ds acc : List D) (S : Sto) (Q Q' : Q1), (∀ d S', Q d S' → Q' d S') → lcGo st p t e ρ0 Q ds acc S → lcGo st p t e ρ0 Q' ds acc S
  | [], acc, S, Q, Q', h, q => ⟨q.1, h _ _ q.2⟩
  | d :: r, acc, S, Q, Q', h, ⟨q1, q2⟩ => by
    obtain ⟨ρ1, e1, q⟩ := gv_iff.mp q2
    exact ⟨q1, gv_iff.mpr ⟨ρ1, e1, mt _ _ _ _ (fun b S1 z => by
      cases b with
      | true => exact me _ _ _ _ (fun y S2 z => ⟨z.1, lcGo_mono mt me r _ _ Q Q' h z.2⟩) z
      | false => exact lcGo_mono mt me r _ _ Q Q' h z) q⟩⟩
theorem lcGo_st {st : Sto → Prop} {p : Pat} {t : WT} {e : W} {ρ0 : Rho} {ds acc : List D} {S : Sto} {Q : Q1} (q : lcGo st p t e ρ0 Q ds acc S) : st S := by
  cases ds <;> exact q.1
theorem wLc_mono {wi : WI} {p : Pat} {t : WT} {e : W} {vs : List Nat} (mi : MonoI wi) (mt : MonoT t) (me : MonoW e) : MonoW (wLc wi p t e vs) := fun ρ S Q Q' h q =>
  mi _ _ _ _ (fun s S1 q1 => lcGo_mono mt me _ _ _ _ _ h q1) q
theorem lc_down {K : KF} {Y : WX} {wi : WI} {p : Pat} {t : WT} {e : W} {vs : List Nat} {tt : TT} (hi : MonoI wi) (mt : MonoT t) (me : MonoW e) (ht : ∀ σ H Q, tT K noY t σ H Q → tt σ H Q) (hp : ∀ i ∈ p.vs, i ∈ vs) :
    ∀ σ H Q, tE K Y (wLc wi p t e vs) σ H Q → tLc (tI K Y wi) (gP K.K p) tt (tE K noY e) vs σ H Q := fun σ H Q ⟨ρ, ι, S, Er, R, q⟩ => by
  refine ⟨ρ, ι, S, Er, R, hi _ _ _ _ (fun s S1 q1 J H1 ι1 T1 R1 ok => ?_) q⟩
  intro Dl hD
  have hDι : Dl ∈ ι ∨ H Dl = none := by
    by_cases hm : Dl ∈ ι
    · exact .inl hm
    · right
      cases z : H Dl with
      | none => rfl
      | some o => rw [T1.keep Dl o z hm] at hD; cases hD
  refine ⟨fun i m H' => i + m = s.items.length ∧ ∃ ι' S' acc xs, RepS K H' ι' S' ∧ Tr H1 ι1 H' ι' ∧ H' Dl = some (.lst xs) ∧ Dl ∉ ι' ∧ RepVs K H' ι' acc xs ∧ lcGo s.stab p t e (wipeR ρ.2 vs) (fun d S' => ∀ v H' ι', Tr H ι H' ι' → RepS K H' ι' S' → RepV K H' ι' d v → Q v H') (s.items.drop i) acc S',
    ⟨s.items.length, Nat.zero_add _, ι1, S1, [], [], RepS.new R1 hD, Tr.new R1 hD, upd_same, R1.fresh hD, rfl, q1⟩, fun i m H' ⟨hm, ι', S', acc, xs, R', T', hDl, hDn, ra, q'⟩ => ?_⟩
  have hst := lcGo_st q'
  obtain ⟨o1, o2⟩ := ok i H' ι' S' T' R' hst
  by_cases hl : s.items.length ≤ i
  · left
    rw [List.drop_of_length_le hl] at q'
    refine ⟨o2 hl, q'.2 _ H' (ι' ++ [Dl]) ((T1.trans T').push hDι) (R'.push hDn hDl ra) ⟨Dl, ?_, rfl⟩⟩
    rw [← R'.len]
    simp
  · right
    have hl' : i < s.items.length := Nat.lt_of_not_le hl
    have e1 : s.items[i]? = some s.items[i] := List.getElem?_eq_getElem hl'
    obtain ⟨g1, g2⟩ := o1 _ e1
    rw [List.drop_eq_getElem_cons hl'] at q'
    refine ⟨g1, fun H2 => ∃ ι2 S2 acc xs, RepS K H2 ι2 S2 ∧ Tr H1 ι1 H2 ι2 ∧ H2 Dl = some (.lst xs) ∧ Dl ∉ ι2 ∧ RepVs K H2 ι2 acc xs ∧ lcGo s.stab p t e (wipeR ρ.2 vs) (fun d S' => ∀ v H' ι', Tr H ι H' ι' → RepS K H' ι' S' → RepV K H' ι' d v → Q v H') (s.items.drop (i + 1)) acc S2,
      fun H2 z => ⟨m - 1, by omega, by omega, z⟩, fun x H2 hy => ?_⟩
    obtain ⟨T2, R2, rx⟩ := g2 x H2 hy
    obtain ⟨ρ2, e2, q2⟩ := gv_iff.mp q'.2
    have E2 : RepR K H2 ι' (L2.wipe σ vs) (wipeR ρ.2 vs) := (((Er.r).tr R T1).tr R1 (T'.trans T2)).wipe vs
    refine bindP_S (K := K) e2 E2 rx fun σ3 E3 on => ⟨?_, ?_⟩
    · rw [wipe_only (on.mono hp), wipe_wipe]
    · refine ht _ _ _ (tT_k (Y := noY) mt (ρ := (noX, ρ2)) ⟨E3, EnX.no⟩ R2 q2 fun b S3 H3 ι3 T3 R3 E4 q3 => ?_)
      have hD3 : H3 Dl = some (.lst xs) := T3.keep _ _ (T2.keep _ _ hDl hDn) hDn
      have hn3 : Dl ∉ ι3 := T3.nmem (T2.keep _ _ hDl hDn) hDn
      have ra3 : RepVs K H3 ι3 acc xs := RepVs.tr R2 T3 _ _ (RepVs.tr R' T2 _ _ ra)
      cases b with
      | false => exact ⟨ι3, S3, acc, xs, R3, (T'.trans T2).trans T3, hD3, hn3, ra3, q3⟩
      | true =>
        refine tE_k me E4 R3 q3 fun y S4 v H4 ι4 T4 R4 ry E5 q4 => ?_
        have hD4 : H4 Dl = some (.lst xs) := T4.keep _ _ hD3 hn3
        have hn4 : Dl ∉ ι4 := T4.nmem hD3 hn3
        have ra4 : RepVs K H4 ι4 acc xs := RepVs.tr R3 T4 _ _ ra3
        refine ⟨xs, hD4, by rw [← ra4.length]; exact q4.1, ι4, S4, acc ++ [y], xs ++ [v], ?_, ?_, upd_same, hn4, ?_, q4.2⟩
        · refine ⟨R4.len, R4.nd, fun n a o h1 h2 => ?_⟩
          obtain ⟨w, z1, z2⟩ := R4.ob n a o h1 h2
          have ha : a ≠ Dl := fun z => hn4 (by subst z; exact List.mem_of_getElem? h1)
          exact ⟨w, by rw [upd_ne ha]; exact z1, z2.mv (RepVs.beside hn4 hD4)⟩
        · have T5 := ((T'.trans T2).trans T3).trans T4
          refine ⟨T5.ext, fun a o ha hn => ?_, fun a ob u ha => ?_⟩
          · by_cases hz : a = Dl
            · subst hz
              rw [hD] at ha
              cases ha
            · rw [upd_ne hz]
              exact T5.keep a o ha hn
          · by_cases hz : a = Dl
            · subst hz
              rw [hD] at ha
              cases ha
            · rw [upd_ne hz]
              exact T5.frz a ob u ha
        · exact RepVs.app (RepVs.beside hn4 hD4 _ _ ra4) (RepVs.one (RepV.beside hn4 hD4 _ _ ry))
end
end WW


set_option Elab.async false
set_option linter.all false
set_option maxRecDepth 100000
set_option maxHeartbeats 4000000
set_option autoImplicit false
namespace WW
open PySem PySem.Spec PyProof.Rows L2

theorem PTs.weak {X : Cx} {ifs : List Expr} {t t' : TT} (h : PTs X ifs t) (w : ∀ σ H Q, t' σ H Q → t σ H Q) : PTs X ifs t' := ⟨fun pins s σ H Q I q => h.run pins s σ H Q I (w σ H Q q)⟩
structure PTsw (X : Cx) (ifs : List Expr) (w : WT) : Prop where
  mono : MonoT w
  pe : ∀ Y, Takes X Y → PTs X ifs (tT (kf X) Y w)
section
variable {X : Cx}
theorem pw_ifs0 : PTsw X [] wYes where
  mono := wYes_mono
  pe := fun Y tk => PTs.weak pts_nil fun σ H Q ⟨ρ, ι, S, E, R, q⟩ => q H ι (Tr.refl _ _) R
theorem pw_ifs1 {c : Expr} {w : WT} (h : PTw X c w) : PTsw X [c] w := ⟨h.mono, fun Y tk => pts_one (h.pe Y tk)⟩
theorem pw_lc {elt tg iter : Expr} {ifs : List Expr} {scope : Scope} {own : List (Str × Nat)} {pos : Pos} {wi : WI} {p : Pat} {t : WT} {e : W} (hc : X.calm = true) (hN : X.N.Nodup) (hi : PIw X tg iter wi) (ok : BlkOk X.N X.env.scope scope own) (mt : MonoT t) (me : MonoW e)
    (hp : ∀ i ∈ p.vs, i ∈ own.map (·.2))
    (hg : ∀ (s : Shared) (H : Hp) (C : Addr) (cl : List (Str × Addr)) (fp : List Addr), PG (X.blk s H scope (compEnvC scope cl C X.env) fp) tg (gP X.K p)) (ht : ∀ (s : Shared) (H : Hp) (C : Addr) (cl : List (Str × Addr)) (fp : List Addr), PTs (X.blk s H scope (compEnvC scope cl C X.env) fp) ifs (tT (kf X) noY t))
    (he : ∀ (s : Shared) (H : Hp) (C : Addr) (cl : List (Str × Addr)) (fp : List Addr), PE (X.blk s H scope (compEnvC scope cl C X.env) fp) elt (tE (kf X) noY e)) (hs : ∀ x, foldedSetIterable iter X.env x = pure x) :
    PEw X (.ListComp elt [⟨tg, iter, ifs, 0⟩] scope pos) (wLc wi p t e (own.map (·.2))) where
  mono := wLc_mono hi.mono mt me
  pe := fun Y tk => PE.weak (pe_lc hc hN (hi.pi Y tk) ok hg ht he hs) (lc_down (K := kf X) hi.mono mt me (fun _ _ _ q => q) hp)
theorem pw_setLc {i : Nat} {y : Str} {py : Pos} {elt tg iter : Expr} {ifs : List Expr} {scope : Scope} {own : List (Str × Nat)} {pos spos : Pos} {wi : WI} {p : Pat} {t : WT} {e : W} (hc : X.calm = true) (hN : X.N.Nodup) (hy : X.N[i]? = some y) (hyl : X.env.scope.names.lookup y = some .local)
    (hsw : swapsWith (.ListComp elt [⟨tg, iter, ifs, 0⟩] scope pos) (some (.Name y py)) spos.line X.env = pure true) (hi : PIw X tg iter wi) (ok : BlkOk X.N X.env.scope scope own) (mt : MonoT t) (me : MonoW e)
    (hp : ∀ i ∈ p.vs, i ∈ own.map (·.2))
    (hg : ∀ (s : Shared) (H : Hp) (C : Addr) (cl : List (Str × Addr)) (fp : List Addr), PG (X.blk s H scope (compEnvC scope cl C X.env) fp) tg (gP X.K p)) (ht : ∀ (s : Shared) (H : Hp) (C : Addr) (cl : List (Str × Addr)) (fp : List Addr), PTs (X.blk s H scope (compEnvC scope cl C X.env) fp) ifs (tT (kf X) noY t))
    (he : ∀ (s : Shared) (H : Hp) (C : Addr) (cl : List (Str × Addr)) (fp : List Addr), PE (X.blk s H scope (compEnvC scope cl C X.env) fp) elt (tE (kf X) noY e)) (hs : ∀ x, foldedSetIterable iter X.env x = pure x) :
    PSw X (.Assign [.Name y py] (.ListComp elt [⟨tg, iter, ifs, 0⟩] scope pos) spos) (wAsg i (wLc wi p t e (own.map (·.2)))) where
  mono := fun ρ S k k' e h1 h2 h3 h4 q => by
    show wLc _ _ _ _ _ (k'.en ρ) S _
    rw [en_eq e]
    exact wLc_mono hi.mono mt me _ _ _ _ (fun d S' z => h1 _ _ z) q
  ps := fun Y tk => PS.weak (ps_setLc hc hN hy hyl hsw (hi.pi Y tk) ok hg ht he hs) fun E σ H ⟨k, ρ, ι, S, Er, R, D, q⟩ => by
    refine lc_down (K := kf X) hi.mono mt me (fun _ _ _ q => q) hp _ _ _ (tE_k (wLc_mono hi.mono mt me) (D.en R Er) R q fun d S1 v H1 ι1 T1 R1 r E1 q1 => ?_)
    exact D.nx _ S1 _ H1 ι1 T1 R1 (E1.r.put r) q1
end

/-! ### calls of what is built in -/
def lenC : CalD
  | [.tup ds], S, Q => Q (.int (ds.length : Nat)) S
  | [.fro ds], S, Q => Q (.int (ds.length : Nat)) S
  | [.ref n], S, Q => (∃ ds, S[n]? = some (.lst ds) ∧ Q (.int (ds.length : Nat)) S) ∨ (∃ ds, S[n]? = some (.dK false ds) ∧ Q (.int (ds.length : Nat)) S) ∨ ∃ ds, S[n]? = some (.dT false ds) ∧ Q (.int (ds.length : Nat)) S
  | [.str z], S, Q => z.length ≤ sizeLine ∧ Q (.int (z.length : Nat)) S
  | _, _, _ => False
def listC : CalD
  | [.tup ds], S, Q => Q (.ref S.length) (S ++ [.lst ds])
  | [.fro ds], S, Q => Q (.ref S.length) (S ++ [.lst ds])
  | [.ref n], S, Q => ∃ ds, S[n]? = some (.lst ds) ∧ Q (.ref S.length) (S ++ [.lst ds])
  | _, _, _ => False
def tupleC : CalD
  | [.tup ds], S, Q => Q (.tup ds) S
  | [.fro ds], S, Q => Q (.tup ds) S
  | [.ref n], S, Q => ∃ ds, S[n]? = some (.lst ds) ∧ Q (.tup ds) S
  | _, _, _ => False
def intC : CalD
  | [.int i], S, Q => Q (.int i) S
  | _, _, _ => False
section
variable {X : Cx}
theorem lenC_S : CalS X (.builtin "len") lenC where
  mono := fun ds S Q Q' h q => by
    unfold lenC at q ⊢
    split at q
    · exact h _ _ q
    · exact h _ _ q
    · rcases q with ⟨ds, a, b⟩ | ⟨ds, a, b⟩ | ⟨ds, a, b⟩
      · exact .inl ⟨ds, a, h _ _ b⟩
      · exact .inr (.inl ⟨ds, a, h _ _ b⟩)
      · exact .inr (.inr ⟨ds, a, h _ _ b⟩)
    · exact ⟨q.1, h _ _ q.2⟩
    · exact q.elim
  rd := ⟨_, CallR.or (CallR.or call_len_seq call_len_str) (CallR.or call_lenD call_len_dT), fun ds S Q vs H ι QV R rs q k => by
    unfold lenC at q
    split at q
    · obtain ⟨v, r, rfl, rv, rr⟩ := rs
      cases rr
      obtain ⟨a, xs, rfl, hx, r2⟩ := rv
      exact .inl (.inl ⟨a, xs, rfl, .inr (.inl (.inl hx)), by rw [← r2.length]; exact k.here R (d := .int _) rfl q⟩)
    · obtain ⟨v, r, rfl, rv, rr⟩ := rs
      cases rr
      obtain ⟨a, xs, rfl, hx, r2⟩ := rv
      exact .inl (.inl ⟨a, xs, rfl, .inl hx.sq, by rw [← r2.length]; exact k.here R (d := .int _) rfl q⟩)
    · obtain ⟨v, r, rfl, rv, rr⟩ := rs
      cases rr
      rcases q with ⟨ds, e, q⟩ | ⟨ds, e, q⟩ | ⟨ds, e, q⟩
      · obtain ⟨a, xs, rfl, _, hx, r2⟩ := R.list rv e
        exact .inl (.inl ⟨a, xs, rfl, .inl (.inl (.inl hx)), by rw [← r2.length]; exact k.here R (d := .int _) rfl q⟩)
      · obtain ⟨a, o, rfl, _, hx, xs, hz, r2⟩ := R.obj rv e
        cases (show o = .dK xs from hz)
        exact .inr (.inl ⟨a, xs, rfl, hx, by rw [← r2.length]; exact k.here R (d := .int _) rfl q⟩)
      · obtain ⟨a, o, rfl, _, hx, xs, hz, r2⟩ := R.obj rv e
        cases (show o = .dT xs from hz)
        exact .inr (.inr ⟨a, xs, rfl, hx, by rw [← r2.length]; exact k.here R (d := .int _) rfl q⟩)
    · obtain ⟨v, r, rfl, rv, rr⟩ := rs
      cases rr
      cases rv
      exact .inl (.inr ⟨_, rfl, q.1, k.here R (d := .int _) rfl q.2⟩)
    · exact q.elim⟩
theorem listC_S : CalS X (.type "list") listC where
  mono := fun ds S Q Q' h q => by
    unfold listC at q ⊢
    split at q
    · exact h _ _ q
    · exact h _ _ q
    · obtain ⟨ds, a, b⟩ := q; exact ⟨ds, a, h _ _ b⟩
    · exact q.elim
  rd := ⟨_, call_list_of, fun ds S Q vs H ι QV R rs q k => by
    unfold listC at q
    split at q
    · obtain ⟨v, r, rfl, rv, rr⟩ := rs
      cases rr
      obtain ⟨a, xs, rfl, hx, r2⟩ := rv
      exact ⟨a, xs, rfl, .inr (.inl (.inl hx)), k.newL R r2 q⟩
    · obtain ⟨v, r, rfl, rv, rr⟩ := rs
      cases rr
      obtain ⟨a, xs, rfl, hx, r2⟩ := rv
      exact ⟨a, xs, rfl, .inl hx.sq, k.newL R r2 q⟩
    · obtain ⟨v, r, rfl, rv, rr⟩ := rs
      cases rr
      obtain ⟨ds, e, q⟩ := q
      obtain ⟨a, xs, rfl, _, hx, r2⟩ := R.list rv e
      exact ⟨a, xs, rfl, .inl (.inl (.inl hx)), k.newL R r2 q⟩
    · exact q.elim⟩
theorem tupleC_S : CalS X (.type "tuple") tupleC where
  mono := fun ds S Q Q' h q => by
    unfold tupleC at q ⊢
    split at q
    · exact h _ _ q
    · exact h _ _ q
    · obtain ⟨ds, a, b⟩ := q; exact ⟨ds, a, h _ _ b⟩
    · exact q.elim
  rd := ⟨_, call_tuple_of, fun ds S Q vs H ι QV R rs q k => by
    unfold tupleC at q
    split at q
    · obtain ⟨v, r, rfl, rv, rr⟩ := rs
      cases rr
      obtain ⟨a, xs, rfl, hx, r2⟩ := rv
      exact ⟨a, xs, rfl, .inr ⟨.inl (.inl hx), k.here R (d := .tup _) ⟨a, xs, rfl, hx, r2⟩ q⟩⟩
    · obtain ⟨v, r, rfl, rv, rr⟩ := rs
      cases rr
      obtain ⟨a, xs, rfl, hx, r2⟩ := rv
      exact ⟨a, xs, rfl, .inl ⟨hx.sq, k.newT R r2 q⟩⟩
    · obtain ⟨v, r, rfl, rv, rr⟩ := rs
      cases rr
      obtain ⟨ds, e, q⟩ := q
      obtain ⟨a, xs, rfl, _, hx, r2⟩ := R.list rv e
      exact ⟨a, xs, rfl, .inl ⟨.inl (.inl hx), k.newT R r2 q⟩⟩
    · exact q.elim⟩
theorem intC_S : CalS X (.type "int") intC where
  mono := fun ds S Q Q' h q => by
    unfold intC at q ⊢
    split at q
    · exact h _ _ q
    · exact q.elim
  rd := ⟨_, call_int1, fun ds S Q vs H ι QV R rs q k => by
    unfold intC at q
    split at q
    · rw [repVs1 rs]
      exact .inl ⟨_, rfl, k.here R (d := .int _) rfl q⟩
    · exact q.elim⟩

/-! ### methods of lists -/
def lstTy : D → Sto → Prop
  | .ref n, S => ∃ ds, S[n]? = some (.lst ds)
  | _, _ => False
def appM : MetD
  | .ref n, [d], S, Q => ∃ ds, S[n]? = some (.lst ds) ∧ ds.length < sizeLine ∧ Q .non (S.set n (.lst (ds ++ [d])))
  | _, _, _, _ => False
def popM : MetD
  | .ref n, [], S, Q => ∃ ds, S[n]? = some (.lst ds) ∧ gv (ds[ds.length - 1]?) fun d => Q d (S.set n (.lst ds.dropLast))
  | _, _, _, _ => False
def extM : MetD
  | .ref n, [.ref m], S, Q => ∃ ds es, S[n]? = some (.lst ds) ∧ S[m]? = some (.lst es) ∧ ds.length + es.length ≤ sizeLine ∧ Q .non (S.set n (.lst (ds ++ es)))
  | _, _, _, _ => False
theorem lstTy_V {K : KF} : ∀ x S v H ι, RepS K H ι S → RepV K H ι x v → lstTy x S → tyV K.K "list" v H := fun x S v H ι R r h => by
  cases x with
  | ref n =>
    obtain ⟨ds, e⟩ := h
    obtain ⟨a, xs, rfl, _, hx, _⟩ := R.list r e
    exact .inl ⟨rfl, xs, .inl (.inl hx)⟩
  | non => exact h.elim
  | bl _ => exact h.elim
  | int _ => exact h.elim
  | str _ => exact h.elim
  | tup _ => exact h.elim
  | fro _ => exact h.elim
theorem RepVs.dropLast {K : KF} {H : Hp} {ι : List Addr} {ds : List D} {xs : List V} (h : RepVs K H ι ds xs) : RepVs K H ι ds.dropLast xs.dropLast := by
  rw [List.dropLast_eq_take, List.dropLast_eq_take, ← h.length]
  exact RepVs.take _ h
theorem appM_S : MetS X "list" "list.append" lstTy appM where
  mono := fun x ds S Q Q' h q => by
    unfold appM at q ⊢
    split at q
    · obtain ⟨ds, a, b, c⟩ := q; exact ⟨ds, a, b, h _ _ c⟩
    · exact q.elim
  ty_ := lstTy_V
  rd := ⟨_, mt_append, fun x ds S Q v vs H ι QV R rx rs q k => by
    unfold appM at q
    split at q
    · obtain ⟨es, e, hl, q⟩ := q
      obtain ⟨a, xs, rfl, hi, hx, r2⟩ := R.list rx e
      obtain ⟨w, r, rfl, rv, rr⟩ := rs
      cases rr
      exact ⟨a, xs, w, rfl, rfl, hx, by rw [← r2.length]; exact hl, k _ _ q .non _ ι (Tr.write R hi (nfz hx)) (RepS.write R hi (RepVs.app r2 (RepVs.one rv))) rfl⟩
    · exact q.elim⟩
theorem popM_S : MetS X "list" "list.pop" lstTy popM where
  mono := fun x ds S Q Q' h q => by
    unfold popM at q ⊢
    split at q
    · obtain ⟨ds, a, b⟩ := q
      obtain ⟨d, e, c⟩ := gv_iff.mp b
      exact ⟨ds, a, gv_iff.mpr ⟨d, e, h _ _ c⟩⟩
    · exact q.elim
  ty_ := lstTy_V
  rd := ⟨_, mt_pop, fun x ds S Q v vs H ι QV R rx rs q k => by
    unfold popM at q
    split at q
    · obtain ⟨es, e, q⟩ := q
      obtain ⟨d, e2, q⟩ := gv_iff.mp q
      obtain ⟨a, xs, rfl, hi, hx, r2⟩ := R.list rx e
      cases rs
      obtain ⟨y, hy, ry⟩ := r2.get e2
      exact ⟨a, xs, y, rfl, rfl, hx, by rw [← r2.length]; exact hy, k _ _ q y _ ι (Tr.write R hi (nfz hx)) (RepS.write R hi r2.dropLast) (RepV.tr R (Tr.write R hi (nfz hx)) _ _ ry)⟩
    · exact q.elim⟩
theorem extM_S : MetS X "list" "list.extend" lstTy extM where
  mono := fun x ds S Q Q' h q => by
    unfold extM at q ⊢
    split at q
    · obtain ⟨ds, es, a, b, c, d⟩ := q; exact ⟨ds, es, a, b, c, h _ _ d⟩
    · exact q.elim
  ty_ := lstTy_V
  rd := ⟨_, mt_extend, fun x ds S Q v vs H ι QV R rx rs q k => by
    unfold extM at q
    split at q
    · obtain ⟨ds, es, e1, e2, hl, q⟩ := q
      obtain ⟨a, xs, rfl, hi, hx, r2⟩ := R.list rx e1
      obtain ⟨w, r, rfl, rv, rr⟩ := rs
      cases rr
      obtain ⟨b, ys, rfl, hj, hy, r3⟩ := R.list rv e2
      exact ⟨a, b, xs, ys, rfl, rfl, hx, hy, by rw [← r2.length, ← r3.length]; exact hl, k _ _ q .non _ ι (Tr.write R hi (nfz hx)) (RepS.write R hi (RepVs.app r2 r3)) rfl⟩
    · exact q.elim⟩
end
end WW


set_option Elab.async false
set_option linter.all false
set_option maxRecDepth 100000
set_option maxHeartbeats 4000000
set_option autoImplicit false
namespace WW
open PySem PySem.Spec PyProof.Rows L2

/-! ### sorted(set(xs)) of a list of ints, any number of them (below the set's own line) -/
/-- an empty set, as set() lays it -/
abbrev emptySet (w : World) : Obj := { cls := .type "set", dict := none, data := .set #[] 0 (.fresh 0 0 (!w.params.followText "set-order")) }
section
variable {P : Program} {w : World} {A : Around} {E : Value → Shared → Prop} {s : Shared}
set_option maxHeartbeats 8000000 in
theorem set_list {l : Addr} {its : Array Value} (ns : List Int) {Q : Value → Shared → Prop} (noh : A.handled = none) (hl : s.heap.IsList l its) (hit : IntsAre its.toList ns) (few : ns.length + 1 < scanBound)
    (h : ∀ (h' : Heap) (tk c : Nat), SetR w h' s.heap.objs.size (fun j => decide (j ∈ ns)) c → c ≤ ns.length → (∀ b o, s.heap.get? b = some o → h'.get? b = some o) → Q (.ref s.heap.objs.size) { s with heap := h', toks := tk }) :
    wpAny (model P w) A (call (.type "set") [.ref l]) Q E s := by
  have sz : its.size = ns.length := by
    rw [← IntsAre.length hit, Array.length_toList]
  obtain ⟨c0, tl0, mro0⟩ := F.called_set.mro
  have f1 := F.called_set.made
  have f2 := F.called_set.sub
  refine wpAny_call (codeAny_of_tree ?_)
  show wpAny _ _ (callAny (.type "set") _) _ _ _
  refine wpAny_pure ⟨Code.quiet_builtin _ (by decide +kernel), codeAny_builtin F.entry_type_call ?_⟩
  rw [Around.under_plain (weight_type_call_type "set" [.ref l] []) rfl]
  have f3 := F.called_set.notType
  have f4 := F.called_set.canCreate
  have f5 := F.typeCall_set_1 (.ref l)
  repeat (any_goals (first | assumption | wp_step))
  refine codeAny_mono (code_set_led1 (.ref l) (E := E) (Q₁ := fun ob t => ob = .ref s.heap.objs.size ∧ t = { s with heap := s.heap.push (emptySet w) }) ⟨rfl, rfl⟩) fun r t ht => ?_
  cases r with
  | error e => exact ht
  | ok fl =>
    cases fl with
    | ret ob =>
      obtain ⟨rfl, rfl⟩ := ht
      have new0 : (s.heap.push (emptySet w)).get? s.heap.objs.size = some (emptySet w) := Heap.get?_push_size _ rfl
      have ty0 : Shared.TypeIs { s with heap := s.heap.push (emptySet w) } (.ref s.heap.objs.size) "set" := ⟨_, new0, rfl⟩
      have f6 := F.called_set.init.lookup
      have f7 := F.called_set.init.bind (.ref s.heap.objs.size)
      repeat (any_goals (first | assumption | wp_step))
      refine codeAny_mono (codeAny_call_builtin (R := wants (fun r t2 => r = .none ∧ ∃ h' tk c, t2 = { s with heap := h', toks := tk } ∧ SetR w h' s.heap.objs.size (fun j => decide (j ∈ ns)) c ∧ c ≤ ns.length ∧
          (∀ b o, s.heap.get? b = some o → h'.get? b = some o)) E) F.called_set.init.plain F.entry_set_init (check_set_init_1 ty0 ?_)) fun r2 t2 h2 => ?_
      · obtain ⟨ol, hol, hcl, nl, hdl⟩ := hl
        obtain ⟨ocls, odict, odata, oslots⟩ := ol
        simp only at hcl hdl
        subst hcl; subst hdl
        have hol' : (s.heap.push (emptySet w)).get? l = some { cls := .type "list", dict := odict, data := .seq its nl, slots := oslots } := Heap.get?_push_of_some _ hol
        have g1 := F.sub_list_set
        have g2 := F.sub_list_frozenset
        have g3 : (Value.type "list" == Value.type "dict") = false := by decide
        have isl : (s.heap.push (emptySet w)).IsList l its := ⟨_, hol', rfl, nl, rfl⟩
        unfold Builtin.«set.__init__» noKeywords Builtin.Frozenset.updateFrom
        generalize hPI : pyIter = PI
        wp_walk
        subst hPI
        refine wpAny_pyIter_list isl ?_
        refine wpAny_bind (wpAny_runValue ?_)
        have ltl : l < s.heap.objs.size := Heap.lt_size hol
        have noh3 : A.in1.in1.in1.handled = none := by simp [noh]
        have szp : (s.heap.push (emptySet w)).objs.size = s.heap.objs.size + 1 := Heap.size_push ..
        have apart : l ≠ (s.heap.push (emptySet w)).objs.size := by
          rw [szp]; exact Nat.ne_of_lt (Nat.lt_succ_of_lt ltl)
        have notfp : s.heap.objs.size ∉ [(s.heap.push (emptySet w)).objs.size, l] := by
          rw [szp]
          intro z
          rcases List.mem_cons.mp z with z | z
          · exact Nat.ne_of_lt (Nat.lt_succ_self _) z
          · rw [List.mem_singleton] at z
            exact Nat.ne_of_gt ltl z
        have val : ∀ (i : Nat) (v : Value), its[i]? = some v → ∃ k t, ns[i]? = some k ∧ v = .int k t := fun i v hv => by
          have hi : i < ns.length := by rw [← sz]; exact (Array.getElem?_eq_some_iff.mp hv).1
          obtain ⟨t, e⟩ := PyProof.Rows.IntsAre.int_at hit i v (by rw [Array.getElem?_toList]; exact hv)
          have e2 : ns.getD i 0 = ns[i] := by rw [List.getD_eq_getElem?_getD, List.getElem?_eq_getElem hi]; rfl
          exact ⟨ns[i], t, List.getElem?_eq_getElem hi, by rw [e, e2]⟩
        refine set_update_ints ((Walks.list noh3 _ l apart its).toS) s.heap.objs.size notfp ns sz few val (its.size - 0) 0 _ (by omega) (Nat.zero_le _)
          ⟨⟨_, Heap.get?_push_size _ rfl, rfl, rfl⟩, (isl.push _)⟩ ⟨0, Nat.le_refl 0, setR_new_at (Heap.get?_push_of_some _ new0)⟩ ?_
        intro s' c' mv lec R'
        obtain ⟨h', g', d', tk', os'⟩ := s'
        have eg : g' = s.gens := mv.gens
        have ed : d' = s.drawn := mv.drawn
        have eo : os' = s.os := mv.os
        subst eg; subst ed; subst eo
        show wpAny _ _ _ _ _ _
        refine wpAny_pure ?_
        show wpAny _ _ (ret Value.none) _ _ _
        rw [sz] at lec
        refine wpAny_pure ⟨rfl, h', tk', c', rfl, R', lec, fun b o e => ?_⟩
        have lb : b < s.heap.objs.size := Heap.lt_size e
        refine mv.heap b o (fun z => ?_) (Heap.get?_push_of_some _ (Heap.get?_push_of_some _ e))
        rcases List.mem_cons.mp z with z | z
        · exact Nat.ne_of_lt lb z
        · rw [List.mem_singleton] at z
          rw [szp] at z
          exact Nat.ne_of_lt (Nat.lt_succ_of_lt lb) z
      · cases r2 with
        | error e => exact h2
        | ok f2 =>
          cases f2 with
          | ret r =>
            obtain ⟨rfl, h', tk, c', rfl, R', lec, kp⟩ := h2
            repeat (any_goals (first | assumption | wp_step))
            exact h _ _ _ R' lec kp
          | _ => exact h2.elim
    | _ => exact ht.elim
/-- sorted of a set of ints -/
theorem sorted_any {a : Addr} {T : Int → Bool} {n : Nat} {Q : Value → Shared → Prop} (R : SetR w s.heap a T n) (noh : A.handled = none)
    (hQ : ∀ t p (out : List Value) (c : Nat) (ms : List Int), (∀ b o, s.heap.get? b = some o → t.heap.get? b = some o) → t.gens = s.gens → t.os = s.os → s.heap.objs.size ≤ p →
      t.heap.get? p = some (seqObj "list" out.toArray c) → IntsAre out ms → ms.Pairwise (· < ·) → (∀ k, k ∈ ms ↔ T k = true) → ms.length = n → Q (.ref p) t) :
    wpAny (model P w) A (call (.builtin "sorted") [.ref a]) Q E s := by
  obtain ⟨o, es, ep, t0, ho, hex, hd, g, nd, hm, hb, hf, hn, hr, hl⟩ := R
  refine Calls.call_function_entry kind_sorted plain_sorted entry_sorted (args_sorted1 _) ?_
  unfold Builtin.«sorted»
  refine wpAny_bind (m := checkCount "sorted" 1 1 _) (wpAny_pure ?_)
  refine wpAny_bind (collect_set (A := A.in1) noh ⟨o, ho, hex.1, hd⟩ hf hb hr hl fun t1 vs kp szl g1 o1 pm => ?_)
  have lv : vs.length = n := by rw [pm.length_eq, List.length_map, Array.length_toList]; exact hn
  have lz : vs.length ≤ sizeLine := by
    rw [lv, sizeLine_eq]
    unfold scanBound at hb
    omega
  have iv : IntsAre vs (vs.map Builtin.Re.reRawOf) := ints_of vs fun v hv => by
    obtain ⟨e, he, q⟩ := List.mem_map.mp (pm.mem_iff.mp hv)
    obtain ⟨k, tk, h1, _⟩ := g e he
    exact ⟨k, tk, by rw [← q]; exact h1⟩
  have pk : (vs.map Builtin.Re.reRawOf).Perm (es.toList.map keyOf) := by
    have q := pm.map Builtin.Re.reRawOf
    rw [List.map_map] at q
    exact q
  refine wpAny_bind (wpAny_newList ?_ lz)
  have at1 : (t1.heap.push (seqObj "list" vs.toArray 0)).get? t1.heap.objs.size = some (seqObj "list" vs.toArray 0) := Heap.get?_push_size _ rfl
  refine wpAny_bind (wpAny_holding (wpAny_call_entry slot_list_sort ⟨_, at1, rfl⟩ entry_list_sort (SrtO.list_sort_ord SrtO.swo_int at1 lz (fun h2 => SrtO.ints_sortable iv h2) fun out s1 s2 => ⟨_, rfl, ?_⟩) (args_list_sort _)))
  obtain ⟨a1, a2, a3⟩ := SrtO.ints_out iv s1 s2
  obtain ⟨c, hc⟩ := sortedHeap_at (vs := vs) (out := out.toArray) at1
  have pn : (out.map SrtO.iv).Perm (es.toList.map keyOf) := a2.trans pk
  refine wpAny_pure ⟨_, rfl, hQ _ t1.heap.objs.size out c _ (fun b u e => ?_) g1 o1 szl hc a1 (lt_of_le_nodup _ a3 (pn.nodup_iff.mpr nd)) (fun k => by rw [pn.mem_iff, ← hm k]) ?_⟩
  · have q := kp b u e
    have lt1 := Heap.lt_size q
    show (sortedHeap (t1.heap.push (seqObj "list" vs.toArray 0)) t1.heap.objs.size vs out.toArray).get? b = some u
    rw [sortedHeap_old (Nat.ne_of_lt lt1) (by rw [size_push']; exact Nat.lt_succ_of_lt lt1)]
    exact Heap.get?_push_of_some _ q
  · rw [pn.length_eq, List.length_map, Array.length_toList]; exact hn
end
/-- sorted(set(e)) over the layer -/
def tSSet (K : PySem.W.Frag) (ta : TE) : TE := fun σ H Q => ta σ H fun x H1 => ∃ (l : Addr) (ns : List Int), x = .ref l ∧ (SqL K H1 l (ns.map V.int) ∨ SqT K H1 l (ns.map V.int)) ∧ ns.length ≤ 4000 ∧
  ∀ (ms : List Int) (p : Addr), ms.Pairwise (· < ·) → (∀ k, k ∈ ms ↔ k ∈ ns) → H1 p = none → Q (.ref p) (upd H1 p (.lst (ms.map V.int)))
theorem pe_sset {X : Cx} {a : Expr} {ta : TE} {p p2 q pos : Pos} (hg : Gl X "sorted") (hm : X.mg "sorted" = none) (hg2 : Gl X "set") (hm2 : X.mg "set" = none) (ha : PE X a ta) (hc : X.calm = true)
    (na : starEach [a] X.env = (false, eval a X.env) :: starEach [] X.env) : PE X (.Call (.Name "sorted" p) [.Call (.Name "set" p2) [a] [] q] [] pos) (tSSet X.K ta) := by
  refine ⟨fun pins s σ H Q I h => ?_⟩
  refine Call_ (ld_blt I hg hm boot_sorted ?_)
  refine PyProof.Rows.callWith_builtin1 (PyProof.Rows.args_cons ?_ rfl) rfl rfl
  refine Call_ (ld_blt I hg2 hm2 PyProof.Rows.boot_set ?_)
  refine PyProof.Rows.callWith_type1 (PyProof.Rows.args_cons (thn (ha.run pins s σ H _ I h) fun v s1 ⟨x, H1, I1, r1, q1⟩ => PyProof.Rows.args_nil ?_) na) na rfl
  obtain ⟨l, ns, rfl, hq, hl, q1⟩ := q1
  cases r1
  have noh := I1.ok.hd hc
  have few : ns.length + 1 < scanBound := by unfold scanBound; omega
  have fin : ∀ (h' : Heap) (tk c : Nat), SetR X.w h' s1.heap.objs.size (fun j => decide (j ∈ ns)) c → c ≤ ns.length → (∀ b o, s1.heap.get? b = some o → h'.get? b = some o) →
      wpAny (model X.prog X.w) X.A (call (.builtin "sorted") [.ref s1.heap.objs.size]) (EP X pins σ Q) X.xe { s1 with heap := h', toks := tk } := fun h' tk c R lec kp => by
    refine sorted_any R noh fun t pp out c2 ms k1 g1 o1 hp hgt hi hlt hms hlen => ?_
    have hle : s1.heap.objs.size ≤ pp := Nat.le_trans (Nat.le_of_lt (SetR.lt R)) hp
    have hpn : H1 pp = none := I1.hok.fresh hle
    have hz : (ms.map V.int).length ≤ sizeLine := by rw [List.length_map, hlen, sizeLine_eq]; omega
    have kall : ∀ b u, s1.heap.get? b = some u → t.heap.get? b = some u := fun b u e => k1 b u (kp b u e)
    have J : Inv X pins σ (upd H1 pp (.lst (ms.map V.int))) { s1 with heap := t.heap, gens := t.gens, drawn := t.drawn, toks := t.toks } :=
      I1.call (ch := []) (Un.laid kall hle hpn) (I1.hok.laid kall hle ⟨hz, out, c2, vals_of_ints hi, hgt⟩) (by rw [g1]; exact I1.bare) (fun _ z => nomatch z)
    have e : t = { s1 with heap := t.heap, gens := t.gens, drawn := t.drawn, toks := t.toks } := by
      cases t
      cases s1
      cases o1
      rfl
    rw [e]
    exact ⟨.ref pp, _, J, rfl, q1 ms pp hlt (fun k => by rw [hms, decide_eq_true_eq]) hpn⟩
  rcases hq with hq | hq
  · obtain ⟨its, r, pl, hz⟩ := I1.list hq
    exact set_list ns noh pl.isList (ints_of_vals r) few fun h' tk c R lec kp => PyProof.Rows.args_nil (fin h' tk c R lec kp)
  · obtain ⟨its, r, pl, hz⟩ := I1.tuple hq
    exact call_set_tupI ns noh (show s1.heap.IsTuple l its.toArray from pl) (ints_of_vals r) few fun h' tk c R lec kp => PyProof.Rows.args_nil (fin h' tk c R lec kp)

end WW


set_option Elab.async false
set_option linter.all false
set_option maxRecDepth 100000
set_option maxHeartbeats 4000000
set_option autoImplicit false
namespace WW
open PySem PySem.Spec PyProof.Rows L2

def ssetD : D → Sto → Q1 → Prop
  | .tup ds, S, Q => ∃ ns : List Int, ds = ns.map .int ∧ ns.length ≤ 4000 ∧ ∀ ms : List Int, ms.Pairwise (· < ·) → (∀ k, k ∈ ms ↔ k ∈ ns) → Q (.ref S.length) (S ++ [.lst (ms.map .int)])
  | .fro ds, S, Q => ∃ ns : List Int, ds = ns.map .int ∧ ns.length ≤ 4000 ∧ ∀ ms : List Int, ms.Pairwise (· < ·) → (∀ k, k ∈ ms ↔ k ∈ ns) → Q (.ref S.length) (S ++ [.lst (ms.map .int)])
  | .ref n, S, Q => ∃ ns : List Int, S[n]? = some (.lst (ns.map .int)) ∧ ns.length ≤ 4000 ∧ ∀ ms : List Int, ms.Pairwise (· < ·) → (∀ k, k ∈ ms ↔ k ∈ ns) → Q (.ref S.length) (S ++ [.lst (ms.map .int)])
  | _, _, _ => False
def wSSet (a : W) : W := fun ρ S Q => a ρ S fun d S1 => ssetD d S1 Q
theorem ssetD_mono {d : D} {S : Sto} {Q Q' : Q1} (h : ∀ d S, Q d S → Q' d S) (q : ssetD d S Q) : ssetD d S Q' := by
  cases d <;> first | exact q.elim | exact let ⟨ns, a, b, c⟩ := q; ⟨ns, a, b, fun ms h1 h2 => h _ _ (c ms h1 h2)⟩
theorem RepVs.ints {K : KF} {H : Hp} {ι : List Addr} : ∀ {ns : List Int} {xs : List V}, RepVs K H ι (ns.map .int) xs → xs = ns.map V.int
  | [], _, h => h
  | n :: ns, _, h => by
    obtain ⟨x, r, rfl, h1, h2⟩ := h
    cases h1
    rw [RepVs.ints h2]
    rfl
theorem RepVs.of_ints {K : KF} {H : Hp} {ι : List Addr} : ∀ (ns : List Int), RepVs K H ι (ns.map .int) (ns.map V.int)
  | [] => rfl
  | n :: ns => ⟨_, _, rfl, rfl, RepVs.of_ints ns⟩
theorem pw_sset {X : Cx} {a : Expr} {w : W} {p p2 q pos : Pos} (hg : Gl X "sorted") (hm : X.mg "sorted" = none) (hg2 : Gl X "set") (hm2 : X.mg "set" = none) (ha : PEw X a w) (hc : X.calm = true)
    (na : starEach [a] X.env = (false, eval a X.env) :: starEach [] X.env) : PEw X (.Call (.Name "sorted" p) [.Call (.Name "set" p2) [a] [] q] [] pos) (wSSet w) where
  mono := fun ρ S Q Q' h q => ha.mono _ _ _ _ (fun d S1 q1 => ssetD_mono h q1) q
  pe := fun Y tk => PE.weak (pe_sset hg hm hg2 hm2 (ha.pe Y tk) hc na) fun σ H Q ⟨ρ, ι, S, E, R, q⟩ => tE_k ha.mono E R q fun d S1 v H1 ι1 T1 R1 r E1 q1 => by
    cases d <;> try exact q1.elim
    · obtain ⟨ns, rfl, hl, q1⟩ := q1
      obtain ⟨a, xs, rfl, hx, rr⟩ := r
      rw [RepVs.ints rr] at hx
      exact ⟨a, ns, rfl, .inr (.inl (.inl hx)), hl, fun ms pp h1 h2 hp => q1 ms h1 h2 _ _ _ (T1.trans (Tr.alloc R1 hp)) (RepS.alloc R1 hp (RepVs.of_ints ms)) (RepV.new R1)⟩
    · obtain ⟨ns, rfl, hl, q1⟩ := q1
      obtain ⟨a, xs, rfl, hx, rr⟩ := r
      rw [RepVs.ints rr] at hx
      exact ⟨a, ns, rfl, .inl hx.sq, hl, fun ms pp h1 h2 hp => q1 ms h1 h2 _ _ _ (T1.trans (Tr.alloc R1 hp)) (RepS.alloc R1 hp (RepVs.of_ints ms)) (RepV.new R1)⟩
    · obtain ⟨ns, e, hl, q1⟩ := q1
      obtain ⟨a, xs, rfl, _, hx, rr⟩ := R1.list r e
      rw [RepVs.ints rr] at hx
      exact ⟨a, ns, rfl, .inl (.inl (.inl hx)), hl, fun ms pp h1 h2 hp => q1 ms h1 h2 _ _ _ (T1.trans (Tr.alloc R1 hp)) (RepS.alloc R1 hp (RepVs.of_ints ms)) (RepV.new R1)⟩
end WW


set_option Elab.async false
set_option linter.all false
set_option maxRecDepth 100000
set_option maxHeartbeats 4000000
set_option autoImplicit false
namespace WW
open PySem PySem.Spec PyProof.Rows L2

/-! ### either of two readings -/
def wOr (a b : W) : W := fun ρ S Q => a ρ S Q ∨ b ρ S Q
theorem pw_or2 {X : Cx} {e : Expr} {a b : W} (h : PEw X e a) (g : PEw X e b) : PEw X e (wOr a b) where
  mono := fun ρ S Q Q' w q => q.elim (fun z => .inl (h.mono _ _ _ _ w z)) (fun z => .inr (g.mono _ _ _ _ w z))
  pe := fun Y tk => PE.weak (PE.or (h.pe Y tk) (g.pe Y tk)) fun σ H Q ⟨ρ, ι, S, E, R, q⟩ => q.elim (fun z => .inl ⟨ρ, ι, S, E, R, z⟩) fun z => .inr ⟨ρ, ι, S, E, R, z⟩

/-! ### isinstance of what is built in -/
inductive Ty where
  | non | bl | int | str | tup | lst | dct
  deriving DecidableEq
def Ty.s : Ty → String
  | .non => "NoneType" | .bl => "bool" | .int => "int" | .str => "str" | .tup => "tuple" | .lst => "list" | .dct => "dict"
def isiB (a b : Ty) : Bool := match b with
  | .non => (match a with | .non => true | _ => false)
  | .bl => (match a with | .bl => true | _ => false)
  | .int => (match a with | .int => true | .bl => true | _ => false)
  | .str => (match a with | .str => true | _ => false)
  | .tup => (match a with | .tup => true | _ => false)
  | .lst => (match a with | .lst => true | _ => false)
  | .dct => (match a with | .dct => true | _ => false)
theorem isi_kit : ∀ a b : Ty, kitB a.s b.s = some (isiB a b) := by
  intro a b
  cases a <;> cases b <;> decide +kernel
def tyD : D → Sto → (Ty → Prop) → Prop
  | .non, _, Q => Q .non
  | .bl _, _, Q => Q .bl
  | .int _, _, Q => Q .int
  | .str _, _, Q => Q .str
  | .tup _, _, Q => Q .tup
  | .fro _, _, _ => False
  | .ref n, S, Q => (∃ ds, S[n]? = some (.lst ds) ∧ Q .lst) ∨ (∃ ds, S[n]? = some (.dK false ds) ∧ Q .dct) ∨ ∃ ds, S[n]? = some (.dT false ds) ∧ Q .dct
def wIsi (T : Ty) (a : W) : W := fun ρ S Q => a ρ S fun d S1 => tyD d S1 fun t => Q (.bl (isiB t T)) S1
theorem tyD_mono {d : D} {S : Sto} {Q Q' : Ty → Prop} (h : ∀ t, Q t → Q' t) (q : tyD d S Q) : tyD d S Q' := by
  cases d <;> first
    | exact q.elim
    | exact h _ q
    | (rcases q with ⟨ds, a, b⟩ | ⟨ds, a, b⟩ | ⟨ds, a, b⟩
       · exact .inl ⟨ds, a, h _ b⟩
       · exact .inr (.inl ⟨ds, a, h _ b⟩)
       · exact .inr (.inr ⟨ds, a, h _ b⟩))
theorem tyD_V {K : KF} {H : Hp} {ι : List Addr} {S : Sto} {d : D} {v : V} {Q : Ty → Prop} (R : RepS K H ι S) (r : RepV K H ι d v) (q : tyD d S Q) : ∃ t : Ty, TyX K.K H v (.type t.s) ∧ Q t := by
  cases d with
  | non => cases r; exact ⟨_, .base .non, q⟩
  | bl b => cases r; exact ⟨_, .base (.bl _), q⟩
  | int b => cases r; exact ⟨_, .base (.int _), q⟩
  | str b => cases r; exact ⟨_, .base (.str _), q⟩
  | tup ds => obtain ⟨a, xs, rfl, hx, _⟩ := r; exact ⟨_, .base (.tup hx), q⟩
  | fro ds => exact q.elim
  | ref n =>
    rcases q with ⟨ds, e, q⟩ | ⟨ds, e, q⟩ | ⟨ds, e, q⟩
    · obtain ⟨a, xs, rfl, _, hx, _⟩ := R.list r e
      exact ⟨_, .base (.lst hx), q⟩
    · obtain ⟨a, o, rfl, _, hx, xs, hz, _⟩ := R.obj r e
      cases (show o = .dK xs from hz)
      exact ⟨_, .base (.dK hx), q⟩
    · obtain ⟨a, o, rfl, _, hx, xs, hz, _⟩ := R.obj r e
      cases (show o = .dT xs from hz)
      exact ⟨_, .base (.dT hx), q⟩
def tyOfS (x : Str) : Option Ty :=
  if x = "int" then some .int else if x = "str" then some .str else if x = "bool" then some .bl else if x = "tuple" then some .tup else if x = "list" then some .lst else if x = "dict" then some .dct else none
theorem tyOfS_boot {x : Str} {t : Ty} (h : tyOfS x = some t) : bootBuiltins x = some (.type t.s) ∧ x ≠ "__name__" ∧ (x == ("__debug__" : Str)) = false := by
  unfold tyOfS at h
  split at h
  · rename_i e; cases h; subst e; exact ⟨by decide +kernel, by decide, by decide⟩
  split at h
  · rename_i e; cases h; subst e; exact ⟨by decide +kernel, by decide, by decide⟩
  split at h
  · rename_i e; cases h; subst e; exact ⟨by decide +kernel, by decide, by decide⟩
  split at h
  · rename_i e; cases h; subst e; exact ⟨by decide +kernel, by decide, by decide⟩
  split at h
  · rename_i e; cases h; subst e; exact ⟨by decide +kernel, by decide, by decide⟩
  split at h
  · rename_i e; cases h; subst e; exact ⟨by decide +kernel, by decide, by decide⟩
  · cases h
theorem pw_isi {X : Cx} {a : Expr} {w : W} {y : Str} {t : Ty} {p p2 pos : Pos} (hg : Gl X "isinstance") (hm : X.mg "isinstance" = none) (ht : tyOfS y = some t) (hg2 : Gl X y) (hm2 : X.mg y = none) (ha : PEw X a w)
    (he : starEach [a, .Name y p2] X.env = (false, eval a X.env) :: starEach [.Name y p2] X.env) : PEw X (.Call (.Name "isinstance" p) [a, .Name y p2] [] pos) (wIsi t w) where
  mono := fun ρ S Q Q' h q => ha.mono _ _ _ _ (fun d S1 q1 => tyD_mono (fun t => h _ _) q1) q
  pe := fun Y tk => by
    obtain ⟨b1, b2, b3⟩ := tyOfS_boot ht
    refine PE.weak (pe_callB call_isi hg hm (by decide +kernel) (pa_cons (ha.pe Y tk) (pa_cons (pe_bltn (v := .ty t.s) hg2 hm2 b1 rfl b2 b3) pa_nil) he) (by decide) (by decide) he rfl) ?_
    intro σ H Q ⟨ρ, ι, S, E, R, q⟩
    refine tE_k ha.mono E R q fun d S1 v H1 ι1 T1 R1 r E1 q1 => ?_
    obtain ⟨t', h1, h2⟩ := tyD_V R1 r q1
    exact ⟨v, .ty t.s, .type t'.s, .type t.s, isiB t' t, rfl, .ty _, h1, isi_kit t' t, h2 (.bl _) H1 ι1 T1 R1 rfl⟩

/-! ### join -/
def strTy : D → Sto → Prop
  | .str _, _ => True
  | _, _ => False
def joinM : MetD
  | .str a, [.ref n], S, Q => ∃ ys : List Str, S[n]? = some (.lst (ys.map .str)) ∧ (ys.map (·.length)).sum + ys.length * a.length ≤ 16777216 ∧ Q (.str (Txt.join a ys)) S
  | .str a, [.tup ds], S, Q => ∃ ys : List Str, ds = ys.map .str ∧ (ys.map (·.length)).sum + ys.length * a.length ≤ 16777216 ∧ Q (.str (Txt.join a ys)) S
  | _, _, _, _ => False
theorem RepVs.strs {K : KF} {H : Hp} {ι : List Addr} : ∀ {ns : List Str} {xs : List V}, RepVs K H ι (ns.map .str) xs → xs = ns.map V.str
  | [], _, h => h
  | n :: ns, _, h => by
    obtain ⟨x, r, rfl, h1, h2⟩ := h
    cases h1
    rw [RepVs.strs h2]
    rfl
theorem joinM_S {X : Cx} : MetS X "str" "str.join" strTy joinM where
  mono := fun x ds S Q Q' h q => by
    unfold joinM at q ⊢
    split at q
    · obtain ⟨ys, a, b, c⟩ := q; exact ⟨ys, a, b, h _ _ c⟩
    · obtain ⟨ys, a, b, c⟩ := q; exact ⟨ys, a, b, h _ _ c⟩
    · exact q.elim
  ty_ := fun x S v H ι R r h => by
    cases x <;> try exact h.elim
    cases r
    rfl
  rd := ⟨_, mt_join, fun x ds S Q v vs H ι QV R rx rs q k => by
    unfold joinM at q
    split at q
    · obtain ⟨ys, e, hl, q⟩ := q
      cases rx
      obtain ⟨w, r, rfl, rv, rr⟩ := rs
      cases rr
      obtain ⟨a, xs, rfl, _, hx, r2⟩ := R.list rv e
      rw [RepVs.strs r2] at hx
      exact ⟨_, a, ys, rfl, rfl, .inl (.inl (.inl hx)), hl, k.here R (d := .str _) rfl q⟩
    · obtain ⟨ys, rfl, hl, q⟩ := q
      cases rx
      obtain ⟨w, r, rfl, rv, rr⟩ := rs
      cases rr
      obtain ⟨a, xs, rfl, hx, r2⟩ := rv
      rw [RepVs.strs r2] at hx
      exact ⟨_, a, ys, rfl, rfl, .inr (.inl (.inl hx)), hl, k.here R (d := .str _) rfl q⟩
    · exact q.elim⟩

/-! ### list(range(..)), tuple(range(..)) -/
def rgD (a b : Int) : List D := (List.range (b - a).toNat).map fun i => .int (a + (i : Nat))
theorem rg_V {K : KF} {H : Hp} {ι : List Addr} (a b : Int) : RepVs K H ι (rgD a b) (rgV a b) := by
  unfold rgD rgV
  generalize (b - a).toNat = n
  induction List.range n with
  | nil => rfl
  | cons x r ih => exact ⟨_, _, rfl, rfl, ih⟩
def rg2 : List D → (Int → Int → Prop) → Prop
  | [.int n], Q => Q 0 n
  | [.int a, .int b], Q => Q a b
  | _, _ => False
def wLstR (a : WA) : W := fun ρ S Q => a ρ S fun ds S1 => rg2 ds fun i j => RgOk i j ∧ Q (.ref S1.length) (S1 ++ [.lst (rgD i j)])
def wTupR (a : WA) : W := fun ρ S Q => a ρ S fun ds S1 => rg2 ds fun i j => RgOk i j ∧ Q (.tup (rgD i j)) S1
theorem rg2_iff {ds : List D} {Q : Int → Int → Prop} (q : rg2 ds Q) : (∃ n, ds = [.int n] ∧ Q 0 n) ∨ ∃ a b, ds = [.int a, .int b] ∧ Q a b := by
  unfold rg2 at q
  split at q
  · exact .inl ⟨_, rfl, q⟩
  · exact .inr ⟨_, _, rfl, q⟩
  · exact q.elim
theorem rg2_mono {ds : List D} {Q Q' : Int → Int → Prop} (h : ∀ i j, Q i j → Q' i j) (q : rg2 ds Q) : rg2 ds Q' := by
  rcases rg2_iff q with ⟨n, rfl, q⟩ | ⟨a, b, rfl, q⟩
  · exact h _ _ q
  · exact h _ _ q
section
variable {X : Cx} {a b : Expr} {wa wb : W} {p p2 q pos : Pos}
theorem rg_1 (hg2 : Gl X "range") (hm2 : X.mg "range" = none) (ha : PEw X a wa) (na : starEach [a] X.env = (false, eval a X.env) :: starEach [] X.env) (Y : WX) (tk : Takes X Y) : PRg X (.Call (.Name "range" p2) [a] [] q) (tRg1 (tE (kf X) Y wa)) := prg_1 hg2 hm2 (ha.pe Y tk) na
theorem rg_2 (hg2 : Gl X "range") (hm2 : X.mg "range" = none) (ha : PEw X a wa) (hb : PEw X b wb) (na : starEach [a, b] X.env = (false, eval a X.env) :: starEach [b] X.env) (nb : starEach [b] X.env = (false, eval b X.env) :: starEach [] X.env)
    (hp : (backTo q (starEach [b] X.env)).any (·.1) = false) (Y : WX) (tk : Takes X Y) : PRg X (.Call (.Name "range" p2) [a, b] [] q) (tRg2 (tE (kf X) Y wa) (tE (kf X) Y wb)) := prg_2 hg2 hm2 (ha.pe Y tk) (hb.pe Y tk) na nb hp
theorem wLstR_mono {wr : WA} (m : MonoA wr) : MonoW (wLstR wr) := fun ρ S Q Q' h q => m _ _ _ _ (fun ds S1 q1 => rg2_mono (fun i j z => ⟨z.1, h _ _ z.2⟩) q1) q
theorem wTupR_mono {wr : WA} (m : MonoA wr) : MonoW (wTupR wr) := fun ρ S Q Q' h q => m _ _ _ _ (fun ds S1 q1 => rg2_mono (fun i j z => ⟨z.1, h _ _ z.2⟩) q1) q
theorem mono1 (ha : PEw X a wa) : MonoA (wCons wa wNil) := fun ρ S Q Q' h q => ha.mono _ _ _ _ (fun x S1 z => h _ _ z) q
theorem mono2 (ha : PEw X a wa) (hb : PEw X b wb) : MonoA (wCons wa (wCons wb wNil)) := fun ρ S Q Q' h q => ha.mono _ _ _ _ (fun x S1 z => hb.mono _ _ _ _ (fun y S2 z => h _ _ z) z) q
theorem rgk_1 {Y : WX} {σ : L2.St} {H : Hp} {Q : Int → Int → Hp → Prop} (ha : PEw X a wa) {ρ : Env} {ι : List Addr} {S : Sto} {G : Int → Int → Sto → Prop} (E : RepE (kf X) Y H ι σ ρ) (R : RepS (kf X) H ι S) (q : wCons wa wNil ρ S fun ds S1 => rg2 ds fun i j => G i j S1)
    (k : ∀ i j S1 H1 ι1, Tr H ι H1 ι1 → RepS (kf X) H1 ι1 S1 → G i j S1 → Q i j H1) : tRg1 (tE (kf X) Y wa) σ H Q :=
  tE_k ha.mono E R q fun d S1 v H1 ι1 T1 R1 r E1 q1 => by
    rcases rg2_iff q1 with ⟨n, e, q1⟩ | ⟨i, j, e, q1⟩
    · cases e
      cases r
      exact ⟨n, rfl, k 0 n S1 H1 ι1 T1 R1 q1⟩
    · cases e
theorem rgk_2 {Y : WX} {σ : L2.St} {H : Hp} {Q : Int → Int → Hp → Prop} (ha : PEw X a wa) (hb : PEw X b wb) {ρ : Env} {ι : List Addr} {S : Sto} {G : Int → Int → Sto → Prop} (E : RepE (kf X) Y H ι σ ρ) (R : RepS (kf X) H ι S) (q : wCons wa (wCons wb wNil) ρ S fun ds S1 => rg2 ds fun i j => G i j S1)
    (k : ∀ i j S1 H1 ι1, Tr H ι H1 ι1 → RepS (kf X) H1 ι1 S1 → G i j S1 → Q i j H1) : tRg2 (tE (kf X) Y wa) (tE (kf X) Y wb) σ H Q :=
  tE_k ha.mono E R q fun d S1 v H1 ι1 T1 R1 r E1 q1 => tE_k hb.mono E1 R1 q1 fun d2 S2 v2 H2 ι2 T2 R2 r2 E2 q2 => by
    rcases rg2_iff q2 with ⟨n, e, q2⟩ | ⟨i, j, e, q2⟩
    · cases e
    · cases e
      cases r
      cases r2
      exact ⟨i, j, rfl, rfl, k i j S2 H2 ι2 (T1.trans T2) R2 q2⟩
theorem pw_lstR1 (hc : X.calm = true) (hg : Gl X "list") (hm : X.mg "list" = none) (hg2 : Gl X "range") (hm2 : X.mg "range" = none) (ha : PEw X a wa) (na : starEach [a] X.env = (false, eval a X.env) :: starEach [] X.env) :
    PEw X (.Call (.Name "list" p) [.Call (.Name "range" p2) [a] [] q] [] pos) (wLstR (wCons wa wNil)) where
  mono := wLstR_mono (mono1 ha)
  pe := fun Y tk => PE.weak (pe_listRg hc hg hm (rg_1 hg2 hm2 ha na Y tk)) fun σ H Q ⟨ρ, ι, S, E, R, q⟩ => rgk_1 ha E R q fun i j S1 H1 ι1 T1 R1 q1 =>
    ⟨q1.1, fun p hp => q1.2 _ _ _ (T1.trans (Tr.alloc R1 hp)) (RepS.alloc R1 hp (rg_V i j)) (RepV.new R1)⟩
theorem pw_tupR1 (hc : X.calm = true) (hg : Gl X "tuple") (hm : X.mg "tuple" = none) (hg2 : Gl X "range") (hm2 : X.mg "range" = none) (ha : PEw X a wa) (na : starEach [a] X.env = (false, eval a X.env) :: starEach [] X.env) :
    PEw X (.Call (.Name "tuple" p) [.Call (.Name "range" p2) [a] [] q] [] pos) (wTupR (wCons wa wNil)) where
  mono := wTupR_mono (mono1 ha)
  pe := fun Y tk => PE.weak (pe_tupRg hc hg hm (rg_1 hg2 hm2 ha na Y tk)) fun σ H Q ⟨ρ, ι, S, E, R, q⟩ => rgk_1 ha E R q fun i j S1 H1 ι1 T1 R1 q1 =>
    ⟨q1.1, fun p hp => q1.2 _ _ _ (T1.trans (Tr.new R1 hp)) (RepS.new R1 hp) ⟨p, _, rfl, upd_same, rg_V i j⟩⟩
theorem pw_tupR2 (hc : X.calm = true) (hg : Gl X "tuple") (hm : X.mg "tuple" = none) (hg2 : Gl X "range") (hm2 : X.mg "range" = none) (ha : PEw X a wa) (hb : PEw X b wb) (na : starEach [a, b] X.env = (false, eval a X.env) :: starEach [b] X.env) (nb : starEach [b] X.env = (false, eval b X.env) :: starEach [] X.env)
    (hp : (backTo q (starEach [b] X.env)).any (·.1) = false) : PEw X (.Call (.Name "tuple" p) [.Call (.Name "range" p2) [a, b] [] q] [] pos) (wTupR (wCons wa (wCons wb wNil))) where
  mono := wTupR_mono (mono2 ha hb)
  pe := fun Y tk => PE.weak (pe_tupRg hc hg hm (rg_2 hg2 hm2 ha hb na nb hp Y tk)) fun σ H Q ⟨ρ, ι, S, E, R, q⟩ => rgk_2 ha hb E R q fun i j S1 H1 ι1 T1 R1 q1 =>
    ⟨q1.1, fun p hp => q1.2 _ _ _ (T1.trans (Tr.new R1 hp)) (RepS.new R1 hp) ⟨p, _, rfl, upd_same, rg_V i j⟩⟩
end

/-! ### dicts: a new one; get -/
def wDct : W := fun _ S Q => Q (.ref S.length) (S ++ [.dK false []]) ∨ Q (.ref S.length) (S ++ [.dT false []])
theorem pw_dct {X : Cx} {pos : Pos} : PEw X (.Dict [] [] pos) wDct where
  mono := fun ρ S Q Q' h q => q.elim (fun z => .inl (h _ _ z)) fun z => .inr (h _ _ z)
  pe := fun Y tk => PE.weak (PE.or pe_dnewK pe_dnewT) fun σ H Q ⟨ρ, ι, S, E, R, q⟩ => q.elim
    (fun z => .inl fun p hp => z _ _ _ (Tr.alloc R hp) (R.allocO (u := .dK false []) hp ⟨[], rfl, RepKV.nil⟩) (RepV.newO R _))
    (fun z => .inr fun p hp => z _ _ _ (Tr.alloc R hp) (R.allocO (u := .dT false []) hp ⟨[], rfl, RepKV.nil⟩) (RepV.newO R _))
def dctTy : D → Sto → Prop
  | .ref n, S => (∃ ds, S[n]? = some (.dK false ds)) ∨ ∃ ds, S[n]? = some (.dT false ds)
  | _, _ => False
theorem dctTy_V {K : KF} : ∀ x S v H ι, RepS K H ι S → RepV K H ι x v → dctTy x S → tyV K.K "dict" v H := fun x S v H ι R r h => by
  cases x <;> try exact h.elim
  rcases h with ⟨ds, e⟩ | ⟨ds, e⟩
  · obtain ⟨a, o, rfl, _, hx, xs, hz, _⟩ := R.obj r e
    cases (show o = .dK xs from hz)
    exact .inr (.inr (.inl ⟨rfl, .inl ⟨_, hx⟩⟩))
  · obtain ⟨a, o, rfl, _, hx, xs, hz, _⟩ := R.obj r e
    cases (show o = .dT xs from hz)
    exact .inr (.inr (.inl ⟨rfl, .inr ⟨_, hx⟩⟩))
def getM : MetD
  | .ref n, [y], S, Q => dGet n y S fun o => Q (o.getD .non) S
  | .ref n, [y, z], S, Q => dGet n y S fun o => Q (o.getD z) S
  | _, _, _, _ => False
def rGet : V → List V → Hp → VK → Prop := fun x xs H Q => (∃ a y o, x = .ref a ∧ xs = [y] ∧ DGet H a y o ∧ Q (o.getD .non) H) ∨ ∃ a y z o, x = .ref a ∧ xs = [y, z] ∧ DGet H a y o ∧ Q (o.getD z) H
theorem mt_get {X : Cx} (hu : X.A.units + 1 < cLine) : MtR X "dict.get" rGet := by
  intro pins s σ H x xs v us Q I rx rs h
  rcases h with ⟨a, y, o, rfl, rfl, g, q⟩ | ⟨a, y, z, o, rfl, rfl, g, q⟩
  · obtain rfl : v = Value.ref a := rx
    obtain ⟨u, rfl, ru⟩ := vals1 rs
    exact d_get1 hu I g ru fun w' s' I' rw' => ⟨_, H, I', rw', q⟩
  · obtain rfl : v = Value.ref a := rx
    obtain ⟨u1, u2, rfl, r1, r2⟩ := vals2 rs
    exact d_get2 hu I g r1 r2 fun w' s' I' rw' => ⟨_, H, I', rw', q⟩
theorem getM_S {X : Cx} (hu : X.A.units + 1 < cLine) : MetS X "dict" "dict.get" dctTy getM where
  mono := fun x ds S Q Q' h q => by
    unfold getM at q ⊢
    split at q
    · exact dGet_mono (fun o z => h _ _ z) q
    · exact dGet_mono (fun o z => h _ _ z) q
    · exact q.elim
  ty_ := dctTy_V
  rd := ⟨_, mt_get hu, fun x ds S Q v vs H ι QV R rx rs q k => by
    unfold getM at q
    split at q
    · obtain ⟨w, r, rfl, rv, rr⟩ := rs
      cases rr
      obtain ⟨a, o, r, rfl, g, q, ho⟩ := dGet_V R rx rv q
      refine .inl ⟨a, w, r, rfl, rfl, g, ?_⟩
      rcases ho with ⟨rfl, rfl⟩ | ⟨d, v, rfl, rfl, rd⟩
      · exact k.here R (d := .non) rfl q
      · exact k.here R rd q
    · obtain ⟨w, r, rfl, rv, w2, r2, rfl, rv2, rr⟩ := rs
      cases rr
      obtain ⟨a, o, r, rfl, g, q, ho⟩ := dGet_V R rx rv q
      refine .inr ⟨a, w, w2, r, rfl, rfl, g, ?_⟩
      rcases ho with ⟨rfl, rfl⟩ | ⟨d, v, rfl, rfl, rd⟩
      · exact k.here R rv2 q
      · exact k.here R rd q
    · exact q.elim⟩
end WW


set_option Elab.async false
set_option linter.all false
set_option maxRecDepth 100000
set_option maxHeartbeats 4000000
set_option autoImplicit false
namespace WW
open PySem PySem.Spec PyProof.Rows L2

/-! ### own classes: fields, methods, new instances -/
def putFA {α : Type} (f : Str) (v : α) : List (Str × α) → List (Str × α)
  | [] => [(f, v)]
  | (g, x) :: r => if g = f then (g, v) :: r else (g, x) :: putFA f v r
theorem RepKV.putF {K : KF} {H : Hp} {ι : List Addr} {f : Str} {d : D} {v : V} (r : RepV K H ι d v) : ∀ {fs : List (Str × D)} {vs : List (Str × V)}, RepKV K H ι fs vs → RepKV K H ι (putFA f d fs) (L2.putF f v vs)
  | [], _, h => by rw [h.cases_nil]; exact RepKV.cons r RepKV.nil
  | p :: q, _, h => by
    obtain ⟨u, s, rfl, h1, h2⟩ := h.uncons
    obtain ⟨g, x⟩ := p
    unfold putFA L2.putF
    by_cases e : g = f
    · rw [if_pos e, if_pos e]
      exact RepKV.cons r h2
    · rw [if_neg e, if_neg e]
      exact RepKV.cons h1 (RepKV.putF r h2)
def fldD (cs : List Str) (f : Str) : D → Sto → Q1 → Prop
  | .ref n, S, Q => ∃ c fs, S[n]? = some (.ins c fs) ∧ c ∈ cs ∧ gv (fs.lookup f) fun v => Q v S
  | _, _, _ => False
def wFld (cs : List Str) (f : Str) (a : W) : W := fun ρ S Q => a ρ S fun d S1 => fldD cs f d S1 Q
theorem fldD_mono {cs : List Str} {f : Str} {d : D} {S : Sto} {Q Q' : Q1} (h : ∀ d S, Q d S → Q' d S) (q : fldD cs f d S Q) : fldD cs f d S Q' := by
  cases d <;> try exact q.elim
  obtain ⟨c, fs, e1, e2, q⟩ := q
  obtain ⟨v, e3, q⟩ := gv_iff.mp q
  exact ⟨c, fs, e1, e2, gv_iff.mpr ⟨v, e3, h _ _ q⟩⟩
/-- what is known of a class and one of its fields -/
def FldOk (X : Cx) (c f : Str) : Prop := Cls X.K ((kf X).cl c) ∧ NoAttr X.K ((kf X).cl c) f
section
variable {X : Cx} {a : Expr} {w : W} {pos : Pos}
theorem pw_fld {cs : List Str} {f : Str} (hF : ∀ c ∈ cs, FldOk X c f) (ha : PEw X a w) (hb : attributeBase a f X.env (eval a X.env) = eval a X.env) : PEw X (.Attribute a f pos) (wFld cs f w) where
  mono := fun ρ S Q Q' h q => ha.mono _ _ _ _ (fun d S1 q1 => fldD_mono h q1) q
  pe := fun Y tk => PE.weak (pe_fld (ha.pe Y tk) hb) fun σ H Q ⟨ρ, ι, S, E, R, q⟩ => tE_k ha.mono E R q fun d S1 v H1 ι1 T1 R1 r E1 q1 => by
    cases d <;> try exact q1.elim
    obtain ⟨c, fs, e1, e2, q2⟩ := q1
    obtain ⟨y, e3, q3⟩ := gv_iff.mp q2
    obtain ⟨p, dx, xs, rfl, hi, hx, rr⟩ := R1.inst r e1
    obtain ⟨h1, h2⟩ := hF c e2
    rcases rr.look (k := f) with ⟨g1, _⟩ | ⟨d', v', g1, g2, g3⟩
    · rw [e3] at g1; cases g1
    · rw [e3] at g1
      cases g1
      exact ⟨p, _, dx, xs, v', rfl, hx, h1, h2, g2, q3 v' H1 ι1 T1 R1 g3⟩
def fsetD (cs : List Str) (f : Str) (y : D) : D → Sto → (Sto → Prop) → Prop
  | .ref n, S, Q => ∃ c fs, S[n]? = some (.ins c fs) ∧ c ∈ cs ∧ fs.length < 1000 ∧ Q (S.set n (.ins c (putFA f y fs)))
  | _, _, _ => False
def wFSet (cs : List Str) (f : Str) (o v : W) : WS := fun k ρ S => v (k.en ρ) S fun y S1 => o (k.en ρ) S1 fun x S2 => fsetD cs f y x S2 fun S3 => k.nx ρ S3
theorem pw_fset {cs : List Str} {f : Str} {o e : Expr} {wo we : W} {pos' : Pos} (hF : ∀ c ∈ cs, FldOk X c f) (ho : PEw X o wo) (he : PEw X e we) (hs : swapsWith e (some (.Attribute o f pos')) pos.line X.env = pure false) : PSw X (.Assign [.Attribute o f pos'] e pos) (wFSet cs f wo we) where
  mono := fun ρ S k k' e h1 h2 h3 h4 q => by
    show we (k'.en ρ) S _
    rw [en_eq e]
    refine he.mono _ _ _ _ (fun y S1 z => ho.mono _ _ _ _ (fun x S2 z => ?_) z) q
    cases x <;> try exact z.elim
    obtain ⟨c, fs, a, b, d, z⟩ := z
    exact ⟨c, fs, a, b, d, h1 _ _ z⟩
  ps := fun Y tk => PS.weak (ps_fld (ho.pe Y tk) (he.pe Y tk) hs) fun E σ H ⟨k, ρ, ι, S, Er, R, D, q⟩ => tE_k he.mono (D.en R Er) R q fun y S1 vy H1 ι1 T1 R1 ry E1 q1 =>
    tE_k ho.mono E1 R1 q1 fun x S2 vx H2 ι2 T2 R2 rx E2 q2 => by
      cases x <;> try exact q2.elim
      obtain ⟨c, fs, e1, e2, e3, q3⟩ := q2
      obtain ⟨p, dx, xs, rfl, hi, hx, rr⟩ := R2.inst rx e1
      obtain ⟨h1, h2⟩ := hF c e2
      exact ⟨p, _, dx, xs, rfl, hx, h1, h2, by rw [← rr.length]; exact e3, D.nx ρ _ σ _ ι2 ((T1.trans T2).trans (Tr.write R2 hi (nfz hx))) (R2.writeO (u := .ins c (putFA f y fs)) hi ⟨dx, _, rfl, RepKV.putF (RepV.tr R1 T2 _ _ ry) rr⟩) (E2.r.tr R2 (Tr.write R2 hi (nfz hx))) q3⟩

theorem meth_eq {o : Expr} {m : Str} {apos pos : Pos} {args : List Expr} {env : PySem.Env} (hb : attributeBase o m env (eval o env) = eval o env)
    (hfew : methodCallForm (args.length + ([] : List Keyword).length) (backTo pos (starEach args env)) (backToKw pos (keywordEach [] env)) = true) (hl : (apos.endLine == pos.line) = true) :
    eval (.Call (.Attribute o m apos) args [] pos) env = (do
      let ov ← eval o env
      standAt apos.atName
      let (f, first) ← holding [ov] (getMethod ov m (do return (← importBound o env).getD true))
      callWith pos f first (backTo pos (starEach args env)) (backToKw pos (keywordEach [] env))) := by
  rw [arm_eval_Call, hb]
  have hpos : methodCallPos true o env apos pos = pure pos := by unfold methodCallPos; simp [hl]
  unfold methodCall
  rw [hfew, hpos]
  rfl
/-- what is known of a class and one of its methods, of n arguments beside self -/
structure MthOk (X : Cx) (c m : Str) (n : Nat) (sp : Spec) : Prop where
  ok : ∃ k f fd ps, FnOk X.prog X.w X.K X.mg X.base CX0 k f fd ps (spOf (kf X) (n + 1) sp) ∧ Room k X.A ∧ Cls X.K ((kf X).cl c) ∧ Meth X.K ((kf X).cl c) m f ∧ Binds X.K fd ps []
def mthD (c m : Str) : D → Sto → Prop
  | .ref n, S => ∃ fs, S[n]? = some (.ins c fs) ∧ fs.lookup m = none
  | _, _ => False
def wMth (c m : Str) (n : Nat) (sp : Spec) (o : W) (a : WA) : W := fun ρ S Q => o ρ S fun x S1 => mthD c m x S1 ∧ a ρ S1 fun ds S2 => callS (n + 1) sp (x :: ds) S2 Q
theorem wMth_mono {c m : Str} {n : Nat} {sp : Spec} {wo : W} {wr : WA} (h1 : MonoW wo) (h2 : MonoA wr) : MonoW (wMth c m n sp wo wr) := fun ρ S Q Q' h q => h1 _ _ _ _ (fun x S1 z => ⟨z.1, h2 _ _ _ _ (fun ds S2 z => callS_mono h z) z.2⟩) q
theorem mthD_V {K : KF} {H : Hp} {ι : List Addr} {S : Sto} {x : D} {v : V} {c m : Str} (R : RepS K H ι S) (r : RepV K H ι x v) (q : mthD c m x S) : ∃ a dx fs, v = .ref a ∧ H a = some (.ins (K.cl c) dx fs) ∧ fs.lookup m = none := by
  cases x <;> try exact q.elim
  obtain ⟨fs, e1, e2⟩ := q
  obtain ⟨p, dx, xs, rfl, hi, hx, rr⟩ := R.inst r e1
  refine ⟨p, dx, xs, rfl, hx, ?_⟩
  rcases rr.look (k := m) with ⟨_, g⟩ | ⟨d', v', g1, _⟩
  · exact g
  · rw [e2] at g1; cases g1
theorem pw_mth {c m : Str} {n : Nat} {sp : Spec} {o e : Expr} {es : List Expr} {wo : W} {wr : WA} {apos : Pos} (M : MthOk X c m n sp) (ho : PEw X o wo) (ha : PAw X (e :: es) wr) (hb : attributeBase o m X.env (eval o X.env) = eval o X.env)
    (hfew : methodCallForm ((e :: es).length + ([] : List Keyword).length) (backTo pos (starEach (e :: es) X.env)) (backToKw pos (keywordEach [] X.env)) = true) (hl : (apos.endLine == pos.line) = true)
    (hst : starEach (e :: es) X.env = (false, eval e X.env) :: starEach es X.env) (hpl : (backTo pos (starEach es X.env)).any (·.1) = false) : PEw X (.Call (.Attribute o m apos) (e :: es) [] pos) (wMth c m n sp wo wr) where
  mono := wMth_mono ho.mono ha.mono
  pe := fun Y tk => by
    obtain ⟨k, f, fd, ps, F, hr, hc, hm, hbn⟩ := M.ok
    refine PE.weak (pe_meth (ho.pe Y tk) hc hm F hr hbn .nil pass0 (ha.pe Y tk) hst hpl (meth_eq hb hfew hl)) fun σ H Q ⟨ρ, ι, S, E, R, q⟩ => tE_k ho.mono E R q fun x S1 vx H1 ι1 T1 R1 rx E1 q1 => ?_
    obtain ⟨a, dx, fs, rfl, h1, h2⟩ := mthD_V R1 rx q1.1
    refine ⟨a, dx, fs, rfl, h1, h2, tA_k ha.mono E1 R1 q1.2 fun ds S2 vs H2 ι2 T2 R2 rs E2 q2 => ?_⟩
    rw [List.append_nil]
    exact ⟨ι2, S2, x :: ds, R2, ⟨_, _, rfl, RepV.tr R1 T2 _ _ rx, rs⟩, callS_mono (fun d S3 q3 v H3 ι3 T3 R3 r => q3 v H3 ι3 ((T1.trans T2).trans T3) R3 r) q2⟩
theorem pw_mth0 {c m : Str} {sp : Spec} {o : Expr} {wo : W} {apos : Pos} (M : MthOk X c m 0 sp) (ho : PEw X o wo) (hb : attributeBase o m X.env (eval o X.env) = eval o X.env) (hl : (apos.endLine == pos.line) = true) :
    PEw X (.Call (.Attribute o m apos) [] [] pos) (wMth c m 0 sp wo wNil) where
  mono := wMth_mono ho.mono fun ρ S Q Q' h q => h _ _ q
  pe := fun Y tk => by
    obtain ⟨k, f, fd, ps, F, hr, hc, hm, hbn⟩ := M.ok
    refine PE.weak (pe_meth0 (ho.pe Y tk) hc hm F hr hbn .nil pass0 (meth_eq hb rfl hl)) fun σ H Q ⟨ρ, ι, S, E, R, q⟩ => tE_k ho.mono E R q fun x S1 vx H1 ι1 T1 R1 rx E1 q1 => ?_
    obtain ⟨a, dx, fs, rfl, h1, h2⟩ := mthD_V R1 rx q1.1
    refine ⟨a, dx, fs, rfl, h1, h2, ?_⟩
    show spOf (kf X) (0 + 1) sp [V.ref a] H1 Q E0
    exact ⟨ι1, S1, [x], R1, RepVs.one rx, callS_mono (fun d S3 q3 v H3 ι3 T3 R3 r => q3 v H3 ι3 (T1.trans T3) R3 r) q1.2⟩
/-- what is known of a class's making -/
structure MakOk (X : Cx) (c : Str) (n : Nat) (sp : Spec) : Prop where
  ok : ∃ k C f fd ps, FnOk X.prog X.w X.K X.mg X.base CX0 k f fd ps (spOf (kf X) (n + 1) sp) ∧ Room (k + 1) X.A ∧ X.mg c = some (.ref C) ∧ Mk X.K C f ∧ Binds X.K fd ps []
def wMak (c : Str) (n : Nat) (sp : Spec) (a : WA) : W := fun ρ S Q => a ρ S fun ds S1 => callS (n + 1) sp (.ref S1.length :: ds) (S1 ++ [.ins c []]) fun d S2 => d = .non ∧ Q (.ref S1.length) S2
theorem wMak_mono {c : Str} {n : Nat} {sp : Spec} {wr : WA} (h2 : MonoA wr) : MonoW (wMak c n sp wr) := fun ρ S Q Q' h q => h2 _ _ _ _ (fun ds S1 z => callS_mono (fun d S2 z => ⟨z.1, h _ _ z.2⟩) z) q
theorem mak_k {K : KF} {H H0 : Hp} {ι ι0 : List Addr} {S : Sto} {c : Str} {C : Addr} {n : Nat} {sp : Spec} {ds : List D} {vs : List V} {Q : VK} {G : Q1} (hC : K.cl c = C) (R : RepS K H ι S) (rs : RepVs K H ι ds vs) (T0 : Tr H0 ι0 H ι)
    (q : callS (n + 1) sp (.ref S.length :: ds) (S ++ [.ins c []]) fun d S2 => d = .non ∧ ∀ v H' ι', Tr H0 ι0 H' ι' → RepS K H' ι' S2 → RepV K H' ι' (.ref S.length) v → Q v H') (x dx : Addr) (hx : H x = none) (hdx : H dx = none) (ne : dx ≠ x) :
    spOf K (n + 1) sp (.ref x :: (vs ++ [])) (upd (upd H dx (.own x)) x (.ins C dx [])) (fun v H2 => v = .non ∧ Q (.ref x) H2) E0 := by
  rw [List.append_nil]
  have T1 : Tr H ι (upd H dx (.own x)) ι := Tr.new R hdx
  have R1 : RepS K (upd H dx (.own x)) ι S := R.new hdx
  have hx1 : (upd H dx (.own x)) x = none := by rw [upd_ne (Ne.symm ne)]; exact hx
  have T2 := Tr.alloc (o := .ins C dx []) R1 hx1
  have R2 := R1.allocO (u := .ins c []) hx1 ⟨dx, [], by rw [hC], RepKV.nil⟩
  have T12 := T1.trans T2
  refine ⟨ι ++ [x], S ++ [.ins c []], .ref S.length :: ds, R2, ⟨_, _, rfl, RepV.newO R _, RepVs.tr R T12 _ _ rs⟩, callS_mono (fun d S3 q3 v H3 ι3 T3 R3 r => ?_) q⟩
  obtain ⟨rfl, q3⟩ := q3
  cases r
  refine ⟨rfl, q3 _ H3 ι3 ((T0.trans T12).trans T3) R3 ⟨x, ?_, rfl⟩⟩
  exact T3.get (by rw [← R.len]; simp)
theorem pw_mak {c : Str} {n : Nat} {sp : Spec} {e : Expr} {es : List Expr} {wr : WA} {p : Pos} (M : MakOk X c n sp) (hg : Gl X c) (ha : PAw X (e :: es) wr) (hdb : (c == ("__debug__" : Str)) = false)
    (hst : starEach (e :: es) X.env = (false, eval e X.env) :: starEach es X.env) (hpl : (backTo pos (starEach es X.env)).any (·.1) = false) : PEw X (.Call (.Name c p) (e :: es) [] pos) (wMak c n sp wr) where
  mono := wMak_mono ha.mono
  pe := fun Y tk => by
    obtain ⟨k, C, f, fd, ps, F, hr, hm, hM, hbn⟩ := M.ok
    refine PE.weak (pe_make hM F hr hg hm hbn .nil pass0 (ha.pe Y tk) hdb hst hpl) fun σ H Q ⟨ρ, ι, S, E, R, q⟩ => tA_k ha.mono E R q fun ds S1 vs H1 ι1 T1 R1 rs E1 q1 => ?_
    exact fun x dx hx hdx ne => mak_k (G := fun _ _ => True) (show (kf X).cl c = C by show clOf X.mg c = C; unfold clOf; rw [hm]) R1 rs T1 q1 x dx hx hdx ne
theorem pw_mak0 {c : Str} {sp : Spec} {p : Pos} (M : MakOk X c 0 sp) (hg : Gl X c) (hdb : (c == ("__debug__" : Str)) = false) : PEw X (.Call (.Name c p) [] [] pos) (wMak c 0 sp wNil) where
  mono := wMak_mono fun ρ S Q Q' h q => h _ _ q
  pe := fun Y tk => by
    obtain ⟨k, C, f, fd, ps, F, hr, hm, hM, hbn⟩ := M.ok
    refine PE.weak (pe_make0 hM F hr hg hm hbn .nil pass0 hdb) fun σ H Q ⟨ρ, ι, S, E, R, q⟩ => ?_
    exact fun x dx hx hdx ne => mak_k (vs := []) (G := fun _ _ => True) (show (kf X).cl c = C by show clOf X.mg c = C; unfold clOf; rw [hm]) R (ds := []) (show RepVs (kf X) H ι [] [] from rfl) (Tr.refl _ _) q x dx hx hdx ne
end
end WW


set_option Elab.async false
set_option linter.all false
set_option maxRecDepth 100000
set_option maxHeartbeats 4000000
set_option autoImplicit false
namespace WW
open PySem PySem.Spec PyProof.Rows L2

/-! ### loops over the keys of a dict: the dict is locked meanwhile -/
def unlK (k : KK) (n : Nat) (o : O) : KK := ⟨fun ρ S => k.nx ρ (S.set n o), fun d S => k.rt d (S.set n o), fun ρ S => k.bk ρ (S.set n o), fun ρ S => k.ct ρ (S.set n o), k.ex⟩
def forD (p : Pat) (b : WS) (k : KK) (ρ : Rho) : D → Sto → Prop
  | .ref n, S => (∃ kvs, S[n]? = some (.dK false kvs) ∧ forGo (fun _ => True) p b (unlK k n (.dK false kvs)) (kvs.map fun kv => kD kv.1) ρ (S.set n (.dK true kvs))) ∨
    ∃ kvs, S[n]? = some (.dT false kvs) ∧ forGo (fun _ => True) p b (unlK k n (.dT false kvs)) (kvs.map fun kv => .tup (kv.1.map kD)) ρ (S.set n (.dT true kvs))
  | _, _ => False
/-- over what stands in slot i: a dict's keys, or a sequence -/
def wForD (i : Nat) (p : Pat) (b : WS) : WS := fun k ρ S => gv (look ρ i) fun d => forD p b k ρ d S
theorem kD_V {K : KF} {H : Hp} {ι : List Addr} (k : Key) : RepV K H ι (kD k) (kV k) := by
  cases k <;> exact rfl
theorem kDs_V {K : KF} {H : Hp} {ι : List Addr} : ∀ ks : List Key, RepVs K H ι (ks.map kD) (ks.map kV)
  | [] => rfl
  | k :: r => ⟨_, _, rfl, kD_V k, kDs_V r⟩
section
variable {K : KF} {H H0 H' : Hp} {ι ι0 ι' : List Addr} {S S' : Sto} {a : Addr} {o : HO} {n : Nat} {σ : L2.St} {ρ : Rho}
/-- the lock goes: what is true of the heap behind it -/
theorem unl_tr (T : Tr H ι H' ι') (hi : ι[n]? = some a) (hz : NFz H a) : Tr H ι (upd H' a o) ι' :=
  ⟨T.ext, fun b u e hn => by
    rw [upd_ne (fun z => hn (by subst z; exact List.mem_of_getElem? hi))]
    exact T.keep b u e hn, fun b ob u e => by
    rw [upd_ne (fun z => by subst z; exact hz ob u e)]
    exact T.frz b ob u e⟩
theorem upd_kp (hi : ι'[n]? = some a) : ∀ (b : Addr) (u : HO), H' b = some u → b ∉ ι' → (upd H' a o) b = some u := fun b u e hn => by
  rw [upd_ne (fun z => hn (by subst z; exact List.mem_of_getElem? hi))]
  exact e
theorem RepR.upd (R : RepS K H' ι' S') (hi : ι'[n]? = some a) (h : RepR K H' ι' σ ρ) : RepR K (upd H' a o) ι' σ ρ :=
  ⟨h.len, fun i d e => let ⟨v, q, r⟩ := h.at_ i d e; ⟨v, q, RepV.tr0 R id (upd_kp hi) d v r⟩⟩
theorem itok_keys {od : Obj} {kvs : List (Key × D)} {xs : List (Key × V)} (h : H a = some (.frz od (.dK xs))) (rr : RepKV K H ι kvs xs) : ItOk K H ι (Itk a od xs) ⟨kvs.map fun kv => kD kv.1, fun _ => True⟩ := fun i H1 ι1 S1 T R st => by
  have h1 := T.frz _ _ _ h
  have hl := rr.length
  refine ⟨fun d hd => ?_, fun hz => ⟨h1, by rw [← hl]; simpa using hz⟩⟩
  rw [List.getElem?_map] at hd
  cases q : kvs[i]? with
  | none => rw [q] at hd; cases hd
  | some kv =>
    rw [q] at hd
    cases hd
    have hlt : i < xs.length := by rw [← hl]; exact (List.getElem?_eq_some_iff.mp q).1
    refine ⟨⟨h1, hlt⟩, fun y H2 hy => ?_⟩
    obtain ⟨rfl, k, v, e, rfl⟩ := hy
    refine ⟨Tr.refl _ _, R, ?_⟩
    have e1 : (kvs.map (·.1))[i]? = (xs.map (·.1))[i]? := by rw [rr.1]
    rw [List.getElem?_map, List.getElem?_map, q, e] at e1
    injection e1 with e1
    have e2 : kv.1 = k := e1
    rw [← e2]
    exact kD_V kv.1
theorem itok_keysT {od : Obj} {kvs : List (List Key × D)} {xs : List (List Key × V)} (h : H a = some (.frz od (.dT xs))) (rr : RepKV K H ι kvs xs) : ItOk K H ι (Itkt a od xs) ⟨kvs.map fun kv => .tup (kv.1.map kD), fun _ => True⟩ := fun i H1 ι1 S1 T R st => by
  have h1 := T.frz _ _ _ h
  have hl := rr.length
  refine ⟨fun d hd => ?_, fun hz => ⟨h1, by rw [← hl]; simpa using hz⟩⟩
  rw [List.getElem?_map] at hd
  cases q : kvs[i]? with
  | none => rw [q] at hd; cases hd
  | some kv =>
    rw [q] at hd
    cases hd
    have hlt : i < xs.length := by rw [← hl]; exact (List.getElem?_eq_some_iff.mp q).1
    refine ⟨⟨h1, hlt⟩, fun y H2 hy => ?_⟩
    obtain ⟨rfl, k, v, b, e, rfl, hb⟩ := hy
    refine ⟨Tr.refl _ _, R, ?_⟩
    have e1 : (kvs.map (·.1))[i]? = (xs.map (·.1))[i]? := by rw [rr.1]
    rw [List.getElem?_map, List.getElem?_map, q, e] at e1
    injection e1 with e1
    have e2 : kv.1 = k := e1
    rw [← e2] at hb
    exact ⟨b, _, rfl, hb, kDs_V _⟩
end
theorem forD_mono {u : WS} {p : Pat} (hb : MonoS u) {k k' : KK} {ρ : Rho} {d : D} {S : Sto} (e : k'.ex = k.ex) (h1 : ∀ ρ S, k.nx ρ S → k'.nx ρ S) (h2 : ∀ d S, k.rt d S → k'.rt d S) (q : forD p u k ρ d S) : forD p u k' ρ d S := by
  cases d <;> try exact q.elim
  rcases q with ⟨kvs, a, q⟩ | ⟨kvs, a, q⟩
  · exact .inl ⟨kvs, a, forGo_mono hb _ (unlK k _ _) (unlK k' _ _) _ _ e (fun ρ S z => h1 _ _ z) (fun d S z => h2 _ _ z) q⟩
  · exact .inr ⟨kvs, a, forGo_mono hb _ (unlK k _ _) (unlK k' _ _) _ _ e (fun ρ S z => h1 _ _ z) (fun d S z => h2 _ _ z) q⟩
section
variable {X : Cx} {u : WS} {p : Pat} {pos px : Pos}
/-- the ends of a locked loop -/
theorem unl_ed {Y : WX} {E : Ends} {k : KK} {H H2 : Hp} {ι ι2 : List Addr} {S : Sto} {a : Addr} {n : Nat} {hu : HO} {o : O} {od : Obj} (D : Ed (kf X) Y H ι k E) (R : RepS (kf X) H ι S) (hi : ι[n]? = some a) (hx : H a = some hu) (hz : NFz H a) (hb : Bear (kf X) H ι o hu)
    (T : Tr H ι H2 ι2) (hf : H2 a = some (.frz od hu)) :
    Ed (kf X) Y H2 ι2 (unlK k n o) ⟨fun σ' H' => H' a = some (.frz od hu) ∧ E.nx σ' (upd H' a hu), fun v H' => H' a = some (.frz od hu) ∧ E.rt v (upd H' a hu), fun σ' H' => H' a = some (.frz od hu) ∧ E.bk σ' (upd H' a hu), fun σ' H' => H' a = some (.frz od hu) ∧ E.ct σ' (upd H' a hu)⟩ := by
  have key : ∀ {S' H' ι'}, Tr H2 ι2 H' ι' → RepS (kf X) H' ι' S' → Tr H ι (upd H' a hu) ι' ∧ RepS (kf X) (upd H' a hu) ι' (S'.set n o) ∧ ι'[n]? = some a := fun T' R' => by
    have T2 := T.trans T'
    exact ⟨unl_tr T2 hi hz, R'.writeO (T2.get hi) (hb.tr R T2), T2.get hi⟩
  refine ⟨fun ρ S' σ H' ι' T' R' Er q => ?_, fun d S' v H' ι' T' R' r q => ?_, fun ρ S' σ H' ι' T' R' Er q => ?_, fun ρ S' σ H' ι' T' R' Er q => ?_, D.ex.tr T⟩
  · obtain ⟨k1, k2, k3⟩ := key T' R'
    exact ⟨T'.frz _ _ _ hf, D.nx ρ _ σ _ ι' k1 k2 (Er.upd R' k3) q⟩
  · obtain ⟨k1, k2, k3⟩ := key T' R'
    exact ⟨T'.frz _ _ _ hf, D.rt d _ v _ ι' k1 k2 (RepV.tr0 R' id (upd_kp k3) d v r) q⟩
  · obtain ⟨k1, k2, k3⟩ := key T' R'
    exact ⟨T'.frz _ _ _ hf, D.bk ρ _ σ _ ι' k1 k2 (Er.upd R' k3) q⟩
  · obtain ⟨k1, k2, k3⟩ := key T' R'
    exact ⟨T'.frz _ _ _ hf, D.ct ρ _ σ _ ι' k1 k2 (Er.upd R' k3) q⟩
theorem pw_forD {i : Nat} {x : Str} {tg : Expr} {body : List Stmt} (hp : PassesOwn (model X.prog X.w) X.A X.env X.xe) (hcalm : X.calm = true) (hv : PEw X (.Name x px) (wVar i)) (hg : PG X tg (gP X.K p)) (hb : PBw X body u) : PSw X (.For tg (.Name x px) body [] pos) (wForD i p u) where
  mono := fun ρ S k k' e h1 h2 h3 h4 q => by
    obtain ⟨d, a, q⟩ := gv_iff.mp q
    exact gv_iff.mpr ⟨d, a, forD_mono hb.mono e h1 h2 q⟩
  ps := fun Y tk => PS.weak (ps_lock (ps_for hp hcalm (pi_keys (hv.pe Y tk)) hg (hb.ps Y tk) (fun _ => rfl))) fun E σ H ⟨k, ρ, ι, S, Er, R, D, q⟩ => by
    obtain ⟨d, ed, q⟩ := gv_iff.mp q
    obtain ⟨v, _, rv⟩ := Er.at_ i d ed
    cases d <;> try exact q.elim
    rcases q with ⟨kvs, e1, q⟩ | ⟨kvs, e1, q⟩
    · obtain ⟨a, o, rfl, hi, hx, xs, hz, rr⟩ := R.obj rv e1
      cases (show o = .dK xs from hz)
      refine ⟨a, _, hx, trivial, fun od => ?_⟩
      have T1 : Tr H ι (upd H a (.frz od (.dK xs))) ι := Tr.write R hi (nfz hx)
      have R1 := R.writeO (o := .frz od (.dK xs)) (u := .dK true kvs) hi ⟨xs, ⟨od, rfl⟩, rr⟩
      refine tE_k hv.mono (ρ := k.en ρ) ⟨Er.tr R T1, fun c fs S' H' ι' cls d T R' xr z => D.ex c fs ρ S' σ H' ι' cls d (T1.trans T) R' ((Er.tr R T1).tr R1 T) xr z⟩ R1 (G := fun d S' => d = .ref _ ∧ S' = _) (gv_iff.mpr ⟨_, ed, rfl, rfl⟩) fun d S2 v2 H2 ι2 T2 R2 r2 E2 q2 => ?_
      obtain ⟨rfl, rfl⟩ := q2
      obtain ⟨a2, h2, rfl⟩ := r2
      rw [T2.get hi] at h2
      cases h2
      have hf := T2.frz _ _ _ (upd_same (H := H) (a := a) (o := .frz od (.dK xs)))
      refine ⟨a, od, rfl, .inl ⟨xs, hf, ?_⟩⟩
      exact for_core (unl_ed (o := .dK false kvs) D R hi hx (nfz hx) ⟨xs, rfl, rr⟩ (T1.trans T2) hf) E2.r R2 (itok_keys hf (rr.tr R (T1.trans T2))) q
    · obtain ⟨a, o, rfl, hi, hx, xs, hz, rr⟩ := R.obj rv e1
      cases (show o = .dT xs from hz)
      refine ⟨a, _, hx, trivial, fun od => ?_⟩
      have T1 : Tr H ι (upd H a (.frz od (.dT xs))) ι := Tr.write R hi (nfz hx)
      have R1 := R.writeO (o := .frz od (.dT xs)) (u := .dT true kvs) hi ⟨xs, ⟨od, rfl⟩, rr⟩
      refine tE_k hv.mono (ρ := k.en ρ) ⟨Er.tr R T1, fun c fs S' H' ι' cls d T R' xr z => D.ex c fs ρ S' σ H' ι' cls d (T1.trans T) R' ((Er.tr R T1).tr R1 T) xr z⟩ R1 (G := fun d S' => d = .ref _ ∧ S' = _) (gv_iff.mpr ⟨_, ed, rfl, rfl⟩) fun d S2 v2 H2 ι2 T2 R2 r2 E2 q2 => ?_
      obtain ⟨rfl, rfl⟩ := q2
      obtain ⟨a2, h2, rfl⟩ := r2
      rw [T2.get hi] at h2
      cases h2
      have hf := T2.frz _ _ _ (upd_same (H := H) (a := a) (o := .frz od (.dT xs)))
      refine ⟨a, od, rfl, .inr ⟨xs, hf, ?_⟩⟩
      exact for_core (unl_ed (o := .dT false kvs) D R hi hx (nfz hx) ⟨xs, rfl, rr⟩ (T1.trans T2) hf) E2.r R2 (itok_keysT hf (rr.tr R (T1.trans T2))) q
/-- two readings of one statement -/
def wOrS (a b : WS) : WS := fun k ρ S => a k ρ S ∨ b k ρ S
theorem pw_orS {st : Stmt} {a b : WS} (h : PSw X st a) (g : PSw X st b) : PSw X st (wOrS a b) where
  mono := fun ρ S k k' e h1 h2 h3 h4 q => q.elim (fun z => .inl (h.mono ρ S k k' e h1 h2 h3 h4 z)) fun z => .inr (g.mono ρ S k k' e h1 h2 h3 h4 z)
  ps := fun Y tk => PS.weak (PS.or (h.ps Y tk) (g.ps Y tk)) fun E σ H ⟨k, ρ, ι, S, Er, R, D, q⟩ => q.elim (fun z => .inl ⟨k, ρ, ι, S, Er, R, D, z⟩) fun z => .inr ⟨k, ρ, ι, S, Er, R, D, z⟩
/-- for .. in x, x a name: a sequence, or a dict's keys -/
def wForN (i : Nat) (p : Pat) (b : WS) : WS := fun k ρ S => gv (look ρ i) fun d => (srcD d S fun s => forGo s.stab p b k s.items ρ S) ∨ forD p b k ρ d S
theorem forN_iff {i : Nat} {b : WS} {k : KK} {ρ : Rho} {S : Sto} : wForN i p b k ρ S ↔ wOrS (wFor (wSeqI (wVar i)) p b) (wForD i p b) k ρ S := by
  unfold wForN wOrS wFor wSeqI wVar wForD KK.en
  cases look ρ i with
  | none => exact ⟨fun h => h.elim, fun h => h.elim id id⟩
  | some d => exact Iff.rfl
theorem pw_forN {i : Nat} {x : Str} {tg : Expr} {body : List Stmt} (hp : PassesOwn (model X.prog X.w) X.A X.env X.xe) (hcalm : X.calm = true) (hv : PEw X (.Name x px) (wVar i)) (hg : PG X tg (gP X.K p)) (hb : PBw X body u) : PSw X (.For tg (.Name x px) body [] pos) (wForN i p u) := by
  have h := pw_orS (pw_for hp hcalm (pw_seqI hv) hg hb (fun _ => rfl)) (pw_forD (px := px) (pos := pos) hp hcalm hv hg hb)
  exact ⟨fun ρ S k k' e h1 h2 h3 h4 q => forN_iff.mpr (h.mono ρ S k k' e h1 h2 h3 h4 (forN_iff.mp q)), fun Y tk => PS.weak (h.ps Y tk) fun E σ H ⟨k, ρ, ι, S, Er, R, D, q⟩ => ⟨k, ρ, ι, S, Er, R, D, forN_iff.mp q⟩⟩
end
end WW


set_option Elab.async false
set_option linter.all false
set_option maxRecDepth 100000
set_option maxHeartbeats 4000000
set_option autoImplicit false
namespace WW
open PySem PySem.Spec PyProof.Rows L2

/-! ### from the program's syntax to clean readings -/
/-- own classes and defs that may raise: field ↦ classes; method ↦ (class, arguments beside self, promise); class ↦ (arguments, __init__'s promise); def ↦ promise -/
structure Kl where
  F : List (Str × List Str)
  M : List (Str × List (Str × Nat × Spec))
  C : List (Str × Nat × Spec)
  X : List (Str × Nat × SpecX)
def kl0 : Kl := ⟨[], [], [], []⟩
structure Ct where
  N : List Str
  sc : Scope
  st : Str → Bool
  G : List (Str × Nat × Spec)
  B : List Str
  L : Kl
def idxS : List Str → Str → Option Nat
  | [], _ => none
  | y :: r, x => if y = x then some 0 else (idxS r x).map (· + 1)
theorem idxS_get : ∀ {N : List Str} {x : Str} {i : Nat}, idxS N x = some i → N[i]? = some x
  | [], _, _, h => nomatch h
  | y :: r, x, i, h => by
    unfold idxS at h
    split at h
    · rename_i e
      cases h
      subst e
      rfl
    · cases q : idxS r x with
      | none => rw [q] at h; cases h
      | some j =>
        rw [q] at h
        cases h
        have := idxS_get q
        simpa using this
theorem idxS_none : ∀ {N : List Str} {x : Str}, idxS N x = none → x ∉ N
  | [], _, _ => by simp
  | y :: r, x, h => by
    unfold idxS at h
    split at h
    · cases h
    · rename_i e
      cases q : idxS r x with
      | some j => rw [q] at h; cases h
      | none =>
        intro hm
        rcases List.mem_cons.mp hm with z | z
        · exact e z.symm
        · exact idxS_none q z
def isVis : Option NameKind → Bool
  | some .local => true
  | some .cell => true
  | some .free => true
  | _ => false
def isLoc : Option NameKind → Bool
  | some .local => true
  | some .cell => true
  | _ => false
def isGl : Option NameKind → Bool
  | some .globalImplicit => true
  | _ => false
def okName (x : Str) : Bool := !(x == ("__debug__" : Str)) && !(x == ("__classdict__" : Str))
def slot (c : Ct) (x : Str) : Option Nat := if (isVis (c.sc.names.lookup x) && okName x) = true then idxS c.N x else none
def slotS (c : Ct) (x : Str) : Option Nat := if (c.st x && okName x) = true then idxS c.N x else none
def plainX : Expr → Bool
  | .BoolOp .. => true
  | .BinOp .. => true
  | .UnaryOp .. => true
  | .IfExp .. => true
  | .ListComp .. => true
  | .Compare .. => true
  | .Call .. => true
  | .Constant .. => true
  | .Attribute .. => true
  | .Subscript .. => true
  | .Name .. => true
  | .List .. => true
  | .Tuple .. => true
  | _ => false
def isComp : Expr → Bool
  | .ListComp .. => true
  | .SetComp .. => true
  | .DictComp .. => true
  | _ => false
def isTup : Expr → Bool
  | .Tuple .. => true
  | _ => false
/-- a receiver of a method: no super() -/
def attrX : Expr → Bool
  | .Call (.Name _ _) [] [] _ => false
  | e => plainX e
/-- what a test reads by truth alone -/
def truX : Expr → Bool
  | .BinOp .. => true
  | .Call .. => true
  | .Constant .. => true
  | .Attribute .. => true
  | .Subscript .. => true
  | .Name .. => true
  | .ListComp .. => true
  | _ => false
section
variable {env : PySem.Env} {e : Expr}
theorem ns_of (es : List Expr) (h : plainX e = true) : starEach (e :: es) env = (false, eval e env) :: starEach es env := by
  cases e <;> first | rfl | exact absurd h Bool.false_ne_true
theorem ix_of (h : plainX e = true) : PlainIx e := by
  cases e <;> first | exact fun _ _ => rfl | exact absurd h Bool.false_ne_true
theorem fs_of (h : plainX e = true) : ∀ x, foldedSetIterable e env x = pure x := by
  cases e <;> first | exact fun _ => rfl | exact absurd h Bool.false_ne_true
theorem bm_of {op : CmpOp} (h : plainX e = true) : behindInMarks op e = false := by
  cases e <;> first | rfl | exact absurd h Bool.false_ne_true
theorem sw_of {t : Option Expr} {l : Nat} (h : isComp e = false) : swapsWith e t l env = pure false := by
  cases e <;> first | rfl | exact absurd h.symm Bool.false_ne_true
theorem ss_of {ts : List Expr} (h : isTup e = false) : swappedStores ts e env = pure none := by
  cases e <;> first
    | exact absurd h.symm Bool.false_ne_true
    | (unfold swappedStores
       cases ts with
       | nil => rfl
       | cons t r => cases r with
         | nil => cases t <;> rfl
         | cons _ _ => cases t <;> rfl)
theorem ab_of {name : Str} {whole : Sem Value} (h : attrX e = true) : attributeBase e name env whole = whole := by
  cases e with
  | Call f as ks p =>
    cases f with
    | Name x q =>
      cases as with
      | nil => cases ks with
        | nil => exact absurd h Bool.false_ne_true
        | cons _ _ => rfl
      | cons _ _ => rfl
    | _ => rfl
  | _ => rfl
theorem tr_of (h : truX e = true) : ∀ whole, isTrue e env whole = (do let v ← whole; standAt e.pos; holding [v] (truthy v)) := by
  cases e <;> first | exact fun _ => rfl | exact absurd h Bool.false_ne_true
end
def plainAll : List Expr → Bool
  | [] => true
  | e :: r => plainX e && plainAll r
theorem back_of {env : PySem.Env} {pos : Pos} : ∀ {es : List Expr}, plainAll es = true → (backTo pos (starEach es env)).any (·.1) = false
  | [], _ => rfl
  | e :: r, h => by
    obtain ⟨h1, h2⟩ := Bool.and_eq_true_iff.mp h
    rw [ns_of r h1]
    show (false || (backTo pos (starEach r env)).any (·.1)) = false
    rw [back_of h2]
    rfl
theorem back_all {env : PySem.Env} {pos : Pos} : ∀ {es : List Expr}, plainAll es = true → (backTo pos (starEach es env)).all (fun x => !x.1) = true
  | [], _ => rfl
  | e :: r, h => by
    obtain ⟨h1, h2⟩ := Bool.and_eq_true_iff.mp h
    rw [ns_of r h1]
    show (true && (backTo pos (starEach r env)).all (fun x => !x.1)) = true
    rw [back_all h2]
    rfl
theorem few_of {env : PySem.Env} {pos : Pos} {es : List Expr} (h : plainAll es = true) (hl : es.length < 30) : ((backTo pos (starEach es env)).all (fun x => !x.1) && (backToKw pos (keywordEach [] env)).all (fun x => x.1.isSome)
      && decide (es.length + ([] : List Keyword).length + (if ([] : List Keyword).isEmpty then 0 else 1) < 30)) = true := by
  rw [back_all h]
  show (true && true && decide (es.length + 0 + 0 < 30)) = true
  simp
  omega
def o2 {α β γ : Type} (f : α → β → γ) : Option α → Option β → Option γ
  | some a, some b => some (f a b)
  | _, _ => none
theorem o2_iff {α β γ : Type} {f : α → β → γ} {a : Option α} {b : Option β} {r : γ} (h : o2 f a b = some r) : ∃ x y, a = some x ∧ b = some y ∧ f x y = r := by
  cases a with
  | none => cases h
  | some x => cases b with
    | none => cases h
    | some y => cases h; exact ⟨x, y, rfl, rfl, rfl⟩
theorem map_iff {α β : Type} {f : α → β} {a : Option α} {r : β} (h : a.map f = some r) : ∃ x, a = some x ∧ f x = r := by
  cases a with
  | none => cases h
  | some x => cases h; exact ⟨x, rfl, rfl⟩
def og {α : Type} (b : Bool) (a : Option α) : Option α := match b with
  | true => a
  | false => none
theorem og_iff {α : Type} {b : Bool} {a : Option α} {r : α} (h : og b a = some r) : b = true ∧ a = some r := by
  cases b with
  | true => exact ⟨rfl, h⟩
  | false => cases h
def cstD : Const → Option D
  | .none => some .non
  | .bool b => some (.bl b)
  | .int i => some (.int i)
  | .str s => some (.str s)
  | _ => none
/-- what is built in: a builtin | a type -/
def bltOf (x : Str) : Option ((Bool × String) × CalD) :=
  if x = "len" then some ((false, "len"), lenC)
  else if x = "list" then some ((true, "list"), listC)
  else if x = "tuple" then some ((true, "tuple"), tupleC)
  else if x = "int" then some ((true, "int"), intC)
  else none
/-- methods of what is built in, by name and number of arguments -/
structure BM where
  T : String
  id : String
  ty : D → Sto → Prop
  o : MetD
def bltM (m : Str) (k : Nat) : List BM :=
  if m = "append" then (if k = 1 then [⟨"list", "list.append", lstTy, appM⟩] else [])
  else if m = "extend" then (if k = 1 then [⟨"list", "list.extend", lstTy, extM⟩] else [])
  else if m = "pop" then (if k = 0 then [⟨"list", "list.pop", lstTy, popM⟩] else [])
  else if m = "get" then (if k = 1 ∨ k = 2 then [⟨"dict", "dict.get", dctTy, getM⟩] else [])
  else if m = "join" then (if k = 1 then [⟨"str", "str.join", strTy, joinM⟩] else [])
  else []
def orAll : List W → Option W
  | [] => none
  | [w] => some w
  | w :: v :: r => (orAll (v :: r)).map (wOr w)
def clsM (c : Ct) (m : Str) (k : Nat) : List (Str × Nat × Spec) := match c.L.M.lookup m with
  | some ms => ms.filter fun t => decide (t.2.1 = k)
  | none => []
def metsW (c : Ct) (m : Str) (k : Nat) (wo : W) (wa : WA) : Option W :=
  orAll ((bltM m k).map (fun b => wMet b.ty b.o wo wa) ++ (clsM c m k).map fun t => wMth t.1 m t.2.1 t.2.2 wo wa)
def ownOf (N : List Str) : List (Str × NameKind) → List (Str × Nat)
  | [] => []
  | y :: r => if isLoc (some y.2) = true then (match idxS N y.1 with | some i => (y.1, i) :: ownOf N r | none => ownOf N r) else ownOf N r
def isFree : NameKind → Bool
  | .free => true
  | _ => false
def isFn : ScopeKind → Bool
  | .function => true
  | _ => false
def blkChk (sc scope : Scope) : Bool := isFn scope.kind && scope.names.all (fun y => decide (scope.names.lookup y.1 = some y.2)) && scope.names.all fun y => !isFree y.2 || decide (sc.names.lookup y.1 = some .cell) || decide (sc.names.lookup y.1 = some .free)
theorem ownOf_ix {N : List Str} : ∀ {ns : List (Str × NameKind)}, ∀ p ∈ ownOf N ns, N[p.2]? = some p.1
  | [], p, h => nomatch h
  | y :: r, p, h => by
    unfold ownOf at h
    split at h
    · split at h
      · rename_i i e
        rcases List.mem_cons.mp h with z | z
        · subst z
          exact idxS_get e
        · exact ownOf_ix p z
      · exact ownOf_ix p h
    · exact ownOf_ix p h
theorem ownOf_mem {N : List Str} : ∀ {ns : List (Str × NameKind)}, ∀ y ∈ ns, y.2 = .local ∨ y.2 = .cell → y.1 ∈ (ownOf N ns).map (·.1) ∨ y.1 ∉ N
  | [], y, h, _ => nomatch h
  | z :: r, y, h, k => by
    unfold ownOf
    rcases List.mem_cons.mp h with e | e
    · subst e
      have hl : isLoc (some y.2) = true := by rcases k with k | k <;> rw [k] <;> rfl
      rw [if_pos hl]
      split
      · left
        exact List.mem_map.mpr ⟨_, List.mem_cons_self, rfl⟩
      · rename_i q
        exact .inr (idxS_none q)
    · rcases ownOf_mem y e k with q | q
      · left
        split
        · split
          · rw [List.map_cons]
            exact List.mem_cons_of_mem _ q
          · exact q
        · exact q
      · exact .inr q
theorem blk_of {N : List Str} {sc scope : Scope} (h : blkChk sc scope = true) : BlkOk N sc scope (ownOf N scope.names) := by
  unfold blkChk at h
  rw [Bool.and_eq_true_iff, Bool.and_eq_true_iff] at h
  obtain ⟨⟨h1, h2⟩, h3⟩ := h
  refine ⟨?_, fun y hy => of_decide_eq_true (List.all_eq_true.mp h2 y hy), ownOf_ix, fun y hy e => ?_, ownOf_mem⟩
  · revert h1
    cases scope.kind <;> simp [isFn]
  · have := List.all_eq_true.mp h3 y hy
    rw [e] at this
    simpa [isFree] using this
def relSt (scope rs : Scope) (x : Str) : Bool := match rs.names.lookup x with
  | some .local => true
  | some .cell => decide (scope.names.lookup x = some .cell)
  | _ => false
def slotsS (c : Ct) : List Expr → Option (List Nat)
  | [] => some []
  | .Name x _ :: r => o2 (fun i is => i :: is) (slotS c x) (slotsS c r)
  | _ :: _ => none
def trP (c : Ct) : Expr → Option Pat
  | .Name x _ => (slotS c x).map .nm
  | .Tuple es _ _ => (slotsS c es).map .tp
  | _ => none
/-- calls that are read as a whole -/
inductive Sx where
  | lstR (b : Expr) | tupR (b : Expr) | tupR2 (b d : Expr) | sset (b : Expr) | isi (t : Ty) (a : Expr)
def bltN (c : Ct) (y : Str) : Bool := decide (y ∈ c.B) && isGl (c.sc.names.lookup y)
def sxOf (c : Ct) (x : Str) (a : Expr) (es : List Expr) : Option Sx :=
  if x = "list" then (match a, es with
    | .Call (.Name y _) [b] [] _, [] => og (decide (x ∈ c.B) && decide (y = "range") && bltN c y && plainX b) (some (.lstR b))
    | _, _ => none)
  else if x = "tuple" then (match a, es with
    | .Call (.Name y _) [b] [] _, [] => og (decide (x ∈ c.B) && decide (y = "range") && bltN c y && plainX b) (some (.tupR b))
    | .Call (.Name y _) [b, d] [] _, [] => og (decide (x ∈ c.B) && decide (y = "range") && bltN c y && plainX b && plainX d) (some (.tupR2 b d))
    | _, _ => none)
  else if x = "sorted" then (match a, es with
    | .Call (.Name y _) [b] [] _, [] => og (decide (x ∈ c.B) && decide (y = "set") && bltN c y && plainX b) (some (.sset b))
    | _, _ => none)
  else if x = "isinstance" then (match es with
    | [.Name y _] => og (decide (x ∈ c.B) && bltN c y) ((tyOfS y).map fun t => .isi t a)
    | _ => none)
  else none
def Ct.blk (c : Ct) (scope : Scope) : Ct := { c with sc := relS scope c.sc, st := relSt scope (relS scope c.sc) }
mutual
def trE (c : Ct) : Nat → Expr → Option W
  | 0, _ => none
  | n + 1, e => match e with
    | .Name x _ => (slot c x).map wVar
    | .Constant k _ _ => (cstD k).map wCst
    | .BinOp a op b _ => o2 (wOp (opD op)) (trE c n a) (trE c n b)
    | .UnaryOp .USub a _ => (trE c n a).map wNeg
    | .UnaryOp .Not a _ => (trE c n a).map wNotV
    | .BoolOp _ [a] _ => trE c n a
    | .BoolOp .And (a :: b :: r) pos => o2 wAndV (trE c n a) (trE c n (.BoolOp .And (b :: r) pos))
    | .BoolOp .Or (a :: b :: r) pos => o2 wOrV (trE c n a) (trE c n (.BoolOp .Or (b :: r) pos))
    | .IfExp t a b _ => o2 (fun t ab => wIf t ab.1 ab.2) (trT c n t) (o2 Prod.mk (trE c n a) (trE c n b))
    | .Compare a [op] [b] _ => og (plainX b) (o2 (wOp (cmpD op)) (trE c n a) (trE c n b))
    | .Compare a [op, op'] [b, d] _ => og (plainX d) (o2 (fun a bd => wChain (cmpD op) (cmpD op') a bd.1 bd.2) (trE c n a) (o2 Prod.mk (trE c n b) (trE c n d)))
    | .Tuple es _ _ => (trA c n es).map wTup
    | .List es _ => (trA c n es).map wLst
    | .Subscript a (.Slice lo hi none _) _ => o2 (fun a lh => wSlc a lh.1 lh.2) (trE c n a) (o2 Prod.mk (trO c n lo) (trO c n hi))
    | .Subscript a b _ => og (plainX b) (o2 (wOp idxD) (trE c n a) (trE c n b))
    | .Attribute o f _ => og (attrX o) (match c.L.F.lookup f with
      | some cs => (trE c n o).map (wFld cs f)
      | none => none)
    | .Dict [] [] _ => some wDct
    | .Call (.Name x _) [] [] _ => og (isGl (c.sc.names.lookup x) && okName x) (match c.L.C.lookup x with
      | some (0, sp) => some (wMak x 0 sp wNil)
      | _ => none)
    | .Call (.Name x _) (a :: es) [] _ => og (isGl (c.sc.names.lookup x) && okName x && plainAll (a :: es)) (match c.G.lookup x with
      | some (m, sp) => (trA c n (a :: es)).map (wCall m sp)
      | none => match c.L.X.lookup x with
        | some (m, sp) => (trA c n (a :: es)).map (wCallX m sp)
        | none => match c.L.C.lookup x with
          | some (m, sp) => (trA c n (a :: es)).map (wMak x m sp)
          | none => match sxOf c x a es with
            | some (.lstR b) => (trE c n b).map fun w => wLstR (wCons w wNil)
            | some (.tupR b) => (trE c n b).map fun w => wTupR (wCons w wNil)
            | some (.tupR2 b d) => o2 (fun v w => wTupR (wCons v (wCons w wNil))) (trE c n b) (trE c n d)
            | some (.sset b) => (trE c n b).map wSSet
            | some (.isi t b) => (trE c n b).map (wIsi t)
            | none => match bltOf x with
              | some (_, o) => og (decide (x ∈ c.B)) ((trA c n (a :: es)).map (wBlt o))
              | none => none)
    | .Call (.Attribute o m apos) (a :: es) [] pos => og ((apos.endLine == pos.line) && attrX o && plainAll (a :: es) && decide ((a :: es).length < 30)) (match trE c n o, trA c n (a :: es) with
      | some wo, some wa => metsW c m (a :: es).length wo wa
      | _, _ => none)
    | .Call (.Attribute o m apos) [] [] pos => og ((apos.endLine == pos.line) && attrX o) (if m = "bit_length" then (trE c n o).map wBits else match trE c n o with
      | some wo => metsW c m 0 wo wNil
      | none => none)
    | .ListComp elt [⟨tg, it, ifs, 0⟩] scope _ => og (blkChk c.sc scope && plainX it) (match trP (c.blk scope) tg with
      | some p => og (p.vs.all fun i => decide (i ∈ (ownOf c.N scope.names).map (·.2))) (o2 (fun wi te => wLc wi p te.1 te.2 ((ownOf c.N scope.names).map (·.2))) (trI c n tg it) (o2 Prod.mk (trC (c.blk scope) n ifs) (trE (c.blk scope) n elt)))
      | none => none)
    | _ => none
def trT (c : Ct) : Nat → Expr → Option WT
  | 0, _ => none
  | n + 1, e => match e with
    | .UnaryOp .Not a _ => (trT c n a).map wNotB
    | .BoolOp op vs pos => trB c n (.BoolOp op vs pos)
    | .Compare a [op] [b] _ => og (plainX b) (o2 (fun a b => wTsB (wOp (cmpD op) a b)) (trE c n a) (trE c n b))
    | .Compare a [op, op'] [b, d] _ => og (plainX d) (o2 (fun a bd => wTsB (wChain (cmpD op) (cmpD op') a bd.1 bd.2)) (trE c n a) (o2 Prod.mk (trE c n b) (trE c n d)))
    | e => og (truX e) ((trE c n e).map wTst)
def trB (c : Ct) : Nat → Expr → Option WT
  | 0, _ => none
  | n + 1, e => match e with
    | .BoolOp _ [a] _ => trT c n a
    | .BoolOp .And (a :: b :: r) pos => o2 wAndB (trT c n a) (trB c n (.BoolOp .And (b :: r) pos))
    | .BoolOp .Or (a :: b :: r) pos => o2 wOrB (trT c n a) (trB c n (.BoolOp .Or (b :: r) pos))
    | _ => none
def trA (c : Ct) : Nat → List Expr → Option WA
  | 0, _ => none
  | n + 1, es => match es with
    | [] => some wNil
    | e :: r => og (plainX e) (o2 wCons (trE c n e) (trA c n r))
def trO (c : Ct) : Nat → Option Expr → Option WO
  | 0, _ => none
  | n + 1, o => match o with
    | none => some wNoP
    | some e => (trE c n e).map wPart
def trC (c : Ct) : Nat → List Expr → Option WT
  | 0, _ => none
  | n + 1, ifs => match ifs with
    | [] => some wYes
    | [e] => trT c n e
    | _ => none
def trI (c : Ct) : Nat → Expr → Expr → Option WI
  | 0, _, _ => none
  | n + 1, tg, e => match e with
    | .Call (.Name x p) as [] pos =>
      if x = "range" then og (isGl (c.sc.names.lookup x) && decide (x ∈ c.B) && plainAll as && (decide (as.length = 1) || decide (as.length = 2) || decide (as.length = 3))) ((trA c n as).map wRng)
      else if x = "enumerate" then og (isGl (c.sc.names.lookup x) && decide (x ∈ c.B) && plainAll as && decide (as.length = 1) && isTup tg) ((trA c n as).map wEnum)
      else (trE c n (.Call (.Name x p) as [] pos)).map wSeqI
    | e => (trE c n e).map wSeqI
end
end WW


set_option Elab.async false
set_option linter.all false
set_option maxRecDepth 100000
set_option maxHeartbeats 4000000
set_option autoImplicit false
namespace WW
open PySem PySem.Spec PyProof.Rows L2

/-- the machine's context is the one that the translation knows -/
structure CtOk (c : Ct) (X : Cx) : Prop where
  hN : X.N = c.N
  nd : c.N.Nodup
  hsc : X.env.scope = c.sc
  calm : X.calm = true
  pp : PassesOwn (model X.prog X.w) X.A X.env X.xe
  st : ∀ x, c.st x = true → L2.Loc X.env.scope x ∧ (X.fn x = true ∨ X.env.scope.names.lookup x = some .local)
  G : ∀ x m sp, c.G.lookup x = some (m, sp) → ∃ k f fd ps, FnOk X.prog X.w X.K X.mg X.base CX0 k f fd ps (spOf (kf X) m sp) ∧ Room k X.A ∧ X.mg x = some (.ref f) ∧ PySem.W.keepIn X.K (.ref f) = true ∧ Binds X.K fd ps []
  GX : ∀ x m sp, c.L.X.lookup x = some (m, sp) → ∃ k f fd ps, FnOk X.prog X.w X.K X.mg X.base (L2.CX X.prog X.w) k f fd ps (spOfX (kf X) m sp) ∧ Room k X.A ∧ X.mg x = some (.ref f) ∧ PySem.W.keepIn X.K (.ref f) = true ∧ Binds X.K fd ps []
  F : ∀ f cs, c.L.F.lookup f = some cs → ∀ x ∈ cs, FldOk X x f
  M : ∀ m ms, c.L.M.lookup m = some ms → ∀ t ∈ ms, MthOk X t.1 m t.2.1 t.2.2
  C : ∀ x n sp, c.L.C.lookup x = some (n, sp) → MakOk X x n sp
  B : ∀ x ∈ c.B, X.mg x = none
  hu : X.A.units + 65 < cLine
section
variable {c : Ct} {X : Cx}
theorem CtOk.hu1 (O : CtOk c X) : X.A.units + 1 < cLine := Nat.lt_of_le_of_lt (Nat.add_le_add_left (by decide) _) O.hu
theorem CtOk.slot (O : CtOk c X) {x : Str} {i : Nat} (h : slot c x = some i) : X.N[i]? = some x ∧ Vis X.env.scope x ∧ (x == ("__debug__" : Str)) = false ∧ (x == ("__classdict__" : Str)) = false := by
  unfold WW.slot at h
  split at h
  · rename_i q
    rw [Bool.and_eq_true_iff] at q
    obtain ⟨q1, q2⟩ := q
    unfold okName at q2
    rw [Bool.and_eq_true_iff] at q2
    refine ⟨by rw [O.hN]; exact idxS_get h, ?_, by simpa using q2.1, by simpa using q2.2⟩
    rw [O.hsc]
    unfold Vis
    revert q1
    cases c.sc.names.lookup x with
    | none => intro z; cases z
    | some k => cases k <;> simp [isVis]
  · cases h
theorem CtOk.slotS (O : CtOk c X) {x : Str} {i : Nat} (h : slotS c x = some i) : X.N[i]? = some x ∧ L2.Loc X.env.scope x ∧ (X.fn x = true ∨ X.env.scope.names.lookup x = some .local) := by
  unfold WW.slotS at h
  split at h
  · rename_i q
    rw [Bool.and_eq_true_iff] at q
    obtain ⟨q1, q2⟩ := O.st x q.1
    exact ⟨by rw [O.hN]; exact idxS_get h, q1, q2⟩
  · cases h
theorem CtOk.gl (O : CtOk c X) {x : Str} (h : isGl (c.sc.names.lookup x) = true) : Gl X x := by
  show X.env.scope.names.lookup x = some .globalImplicit
  rw [O.hsc]
  revert h
  cases c.sc.names.lookup x with
  | none => intro z; cases z
  | some k => cases k <;> simp [isGl]
theorem okName_of {x : Str} (h : okName x = true) : (x == ("__debug__" : Str)) = false := by
  unfold okName at h
  rw [Bool.and_eq_true_iff] at h
  simpa using h.1
theorem CtOk.cN (O : CtOk c X) : X.N.Nodup := by rw [O.hN]; exact O.nd
/-- the context of a comprehension's block -/
theorem CtOk.blk (O : CtOk c X) (scope : Scope) (s : Shared) (H : Hp) (C : Addr) (cl : List (Str × Addr)) (fp : List Addr) : CtOk (c.blk scope) (X.blk s H scope (compEnvC scope cl C X.env) fp) where
  hN := O.hN
  nd := O.nd
  hsc := by
    show relS scope X.env.scope = relS scope c.sc
    rw [O.hsc]
  calm := O.calm
  pp := PassesOwn.never
  st := fun x h => by
    have h : relSt scope (relS scope c.sc) x = true := h
    show L2.Loc (relS scope X.env.scope) x ∧ ((scope.names.lookup x == some .cell) = true ∨ (relS scope X.env.scope).names.lookup x = some .local)
    rw [O.hsc]
    unfold relSt at h
    unfold L2.Loc
    split at h
    · rename_i e
      exact ⟨.inl e, .inr e⟩
    · rename_i e
      refine ⟨.inr e, .inl ?_⟩
      rw [of_decide_eq_true h]
      rfl
    · cases h
  G := O.G
  GX := O.GX
  F := O.F
  M := fun m ms h t ht => ⟨(O.M m ms h t ht).ok⟩
  C := fun x n sp h => ⟨(O.C x n sp h).ok⟩
  B := O.B
  hu := O.hu
theorem CtOk.pg1 (O : CtOk c X) {x : Str} {i : Nat} {pos : Pos} (h : WW.slotS c x = some i) : PG X (.Name x pos) (gName i) :=
  let ⟨h1, h2, h3⟩ := O.slotS h
  pg_name O.cN h1 h2 h3
theorem CtOk.pgs (O : CtOk c X) : ∀ {es : List Expr} {is : List Nat}, slotsS c es = some is → PGs X es (gNames is) ∧ (assignEach es X.env).length = is.length ∧ (assignEach es X.env).findIdx? (·.1) = none
  | [], _, h => by
    cases h
    exact ⟨pgs_nil, rfl, rfl⟩
  | e :: r, is, h => by
    cases e with
    | Name x p =>
      obtain ⟨i, js, h1, h2, rfl⟩ := o2_iff h
      obtain ⟨g1, g2, g3⟩ := O.pgs h2
      refine ⟨pgs_cons (O.pg1 h1) g1, ?_, ?_⟩
      · show (assignEach r X.env).length + 1 = js.length + 1
        rw [g2]
      · show List.findIdx? (·.1) ((false, assign (.Name x p) X.env) :: assignEach r X.env) = none
        rw [List.findIdx?_cons]
        simp [g3]
    | _ => exact nomatch h
theorem CtOk.pg (O : CtOk c X) {tg : Expr} {p : Pat} (h : trP c tg = some p) : PG X tg (gP X.K p) := by
  cases tg with
  | Name x pos =>
    obtain ⟨i, h1, rfl⟩ := map_iff h
    exact O.pg1 h1
  | Tuple es k pos =>
    obtain ⟨is, h1, rfl⟩ := map_iff h
    obtain ⟨g1, g2, g3⟩ := O.pgs h1
    exact pg_tup O.calm g1 g2 g3
  | _ => exact nomatch h
theorem blt_B {x : Str} {id : String} {o : CalD} (h : bltOf x = some ((false, id), o)) : CalS X (.builtin id) o ∧ bootBuiltins x = some (.builtin id) ∧ x ≠ "__name__" := by
  unfold bltOf at h
  split at h
  · rename_i e; cases h; subst e; exact ⟨lenC_S, by decide +kernel, by decide⟩
  split at h
  · cases h
  split at h
  · cases h
  split at h
  · cases h
  · cases h
theorem blt_T {x : Str} {id : String} {o : CalD} (h : bltOf x = some ((true, id), o)) : CalS X (.type id) o ∧ bootBuiltins x = some (.type id) ∧ x ≠ "__name__" := by
  unfold bltOf at h
  split at h
  · cases h
  split at h
  · rename_i e; cases h; subst e; exact ⟨listC_S, by decide +kernel, by decide⟩
  split at h
  · rename_i e; cases h; subst e; exact ⟨tupleC_S, by decide +kernel, by decide⟩
  split at h
  · rename_i e; cases h; subst e; exact ⟨intC_S, by decide +kernel, by decide⟩
  · cases h
def LenA (k : Nat) (w : WA) : Prop := ∀ ρ S Q, w ρ S Q → w ρ S fun ds S' => ds.length = k ∧ Q ds S'
/-- what the translation of a comprehension hands on -/
structure LcOk (X : Cx) (elt tg iter : Expr) (ifs : List Expr) (scope : Scope) (wi : WI) (p : Pat) (t : WT) (e : W) (own : List (Str × Nat)) : Prop where
  hi : PIw X tg iter wi
  ok : BlkOk X.N X.env.scope scope own
  mt : MonoT t
  me : MonoW e
  hp : ∀ i ∈ p.vs, i ∈ own.map (·.2)
  hg : ∀ (s : Shared) (H : Hp) (C : Addr) (cl : List (Str × Addr)) (fp : List Addr), PG (X.blk s H scope (compEnvC scope cl C X.env) fp) tg (gP X.K p)
  ht : ∀ (s : Shared) (H : Hp) (C : Addr) (cl : List (Str × Addr)) (fp : List Addr), PTs (X.blk s H scope (compEnvC scope cl C X.env) fp) ifs (tT (kf X) noY t)
  he : ∀ (s : Shared) (H : Hp) (C : Addr) (cl : List (Str × Addr)) (fp : List Addr), PE (X.blk s H scope (compEnvC scope cl C X.env) fp) elt (tE (kf X) noY e)
  pl : plainX iter = true
structure Snd (n : Nat) : Prop where
  E : ∀ c X e w, CtOk c X → trE c n e = some w → PEw X e w
  T : ∀ c X e w, CtOk c X → trT c n e = some w → PTw X e w
  W : ∀ c X e w, CtOk c X → trB c n e = some w → PWw X e w
  A : ∀ c X es w, CtOk c X → trA c n es = some w → PAw X es w ∧ LenA es.length w
  O : ∀ c X o w, CtOk c X → trO c n o = some w → POw X o w
  C : ∀ c X ifs w, CtOk c X → trC c n ifs = some w → PTsw X ifs w
  I : ∀ c X tg e w, CtOk c X → trI c n tg e = some w → PIw X tg e w
theorem PWw.pt {e : Expr} {w : WT} (h : PWw X e w) : PTw X e w := ⟨h.mono, fun Y tk => (h.pe Y tk).pt⟩
theorem snd_lc {n : Nat} (S : Snd n) (O : CtOk c X) {elt tg it : Expr} {ifs : List Expr} {scope : Scope} {w : W}
    (h : og (blkChk c.sc scope && plainX it) (match trP (c.blk scope) tg with
      | some p => og (p.vs.all fun i => decide (i ∈ (ownOf c.N scope.names).map (·.2))) (o2 (fun wi te => wLc wi p te.1 te.2 ((ownOf c.N scope.names).map (·.2))) (trI c n tg it) (o2 Prod.mk (trC (c.blk scope) n ifs) (trE (c.blk scope) n elt)))
      | none => none) = some w) : ∃ wi p t e, LcOk X elt tg it ifs scope wi p t e (ownOf c.N scope.names) ∧ w = wLc wi p t e ((ownOf c.N scope.names).map (·.2)) := by
  obtain ⟨h1, h2⟩ := og_iff h
  obtain ⟨h0, h1⟩ := Bool.and_eq_true_iff.mp h1
  split at h2
  · rename_i p hp
    obtain ⟨h3, h4⟩ := og_iff h2
    obtain ⟨wi, te, h5, h6, rfl⟩ := o2_iff h4
    obtain ⟨t, e, h7, h8, rfl⟩ := o2_iff h6
    -- any block will do for what is monotone
    have Z := fun (s : Shared) (H : Hp) (C : Addr) (cl : List (Str × Addr)) (fp : List Addr) => O.blk scope s H C cl fp
    refine ⟨wi, p, t, e, ⟨S.I c X tg it wi O h5, ?_, ?_, ?_, fun i hi => of_decide_eq_true (List.all_eq_true.mp h3 i hi), fun s H C cl fp => (Z s H C cl fp).pg hp, fun s H C cl fp => (S.C _ _ _ _ (Z s H C cl fp) h7).pe noY takesNo, fun s H C cl fp => (S.E _ _ _ _ (Z s H C cl fp) h8).pe noY takesNo, h1⟩, rfl⟩
    · rw [O.hN, O.hsc]
      exact blk_of h0
    · exact (S.C _ _ _ _ (Z X.s_0 X.H_0 0 [] []) h7).mono
    · exact (S.E _ _ _ _ (Z X.s_0 X.H_0 0 [] []) h8).mono
  · cases h2
/-- one of several readings -/
theorem pw_all {e : Expr} : ∀ {ws : List W} {w : W}, (∀ v ∈ ws, PEw X e v) → orAll ws = some w → PEw X e w
  | [], _, _, h => nomatch h
  | [v], _, g, h => by cases h; exact g _ List.mem_cons_self
  | v :: u :: r, _, g, h => by
    obtain ⟨w, h1, rfl⟩ := map_iff h
    exact pw_or2 (g v List.mem_cons_self) (pw_all (fun z hz => g z (List.mem_cons_of_mem _ hz)) h1)
theorem bltM_ok (hu : X.A.units + 1 < cLine) {m : Str} {k : Nat} {b : BM} (h : b ∈ bltM m k) : PlainAttrs b.T ∧ Slot b.T m b.id ∧ typeOf (.builtin b.id) = pure (.type "method_descriptor") ∧ MetS X b.T b.id b.ty b.o := by
  unfold bltM at h
  split at h
  · rename_i e
    subst e
    split at h
    · rw [List.mem_singleton] at h
      subst h
      exact ⟨PySem.F.plainAttrs_list, PySem.F.slot_list_append, PySem.F.type_list_append, appM_S⟩
    · cases h
  split at h
  · rename_i e
    subst e
    split at h
    · rw [List.mem_singleton] at h
      subst h
      exact ⟨PySem.F.plainAttrs_list, PySem.F.slot_list_extend, PySem.F.type_list_extend, extM_S⟩
    · cases h
  split at h
  · rename_i e
    subst e
    split at h
    · rw [List.mem_singleton] at h
      subst h
      exact ⟨PySem.F.plainAttrs_list, PySem.F.slot_list_pop, PySem.F.type_list_pop, popM_S⟩
    · cases h
  split at h
  · rename_i e
    subst e
    split at h
    · rw [List.mem_singleton] at h
      subst h
      exact ⟨PySem.F.plainAttrs_dict, PySem.F.slot_dict_get, PySem.F.type_dict_get, getM_S hu⟩
    · cases h
  split at h
  · rename_i e
    subst e
    split at h
    · rw [List.mem_singleton] at h
      subst h
      exact ⟨PySem.F.plainAttrs_str, PySem.F.slot_str_join, PySem.F.type_str_join, joinM_S⟩
    · cases h
  · cases h
theorem clsM_ok (O : CtOk c X) {m : Str} {k : Nat} {t : Str × Nat × Spec} (h : t ∈ clsM c m k) : MthOk X t.1 m k t.2.2 ∧ t.2.1 = k := by
  unfold clsM at h
  split at h
  · rename_i ms e
    obtain ⟨h1, h2⟩ := List.mem_filter.mp h
    have h3 := of_decide_eq_true h2
    have := O.M m ms e t h1
    rw [h3] at this
    exact ⟨this, h3⟩
  · cases h
theorem pw_mets (O : CtOk c X) {o a : Expr} {es : List Expr} {m : Str} {wo : W} {wa : WA} {w : W} {apos pos : Pos} (ho : PEw X o wo) (ha : PAw X (a :: es) wa) (g1 : (apos.endLine == pos.line) = true) (g2 : attrX o = true) (g3 : plainAll (a :: es) = true) (g4 : (a :: es).length < 30)
    (h : metsW c m (a :: es).length wo wa = some w) : PEw X (.Call (.Attribute o m apos) (a :: es) [] pos) w := by
  obtain ⟨p1, p2⟩ := Bool.and_eq_true_iff.mp g3
  refine pw_all (fun v hv => ?_) h
  rcases List.mem_append.mp hv with z | z
  · obtain ⟨b, hb, rfl⟩ := List.mem_map.mp z
    obtain ⟨b1, b2, b3, b4⟩ := bltM_ok (X := X) O.hu1 hb
    exact pw_met b4 b1 b2 b3 ho ha (ab_of g2) (few_of g3 g4) g1 (ns_of es p1) (back_of p2)
  · obtain ⟨t, ht, rfl⟩ := List.mem_map.mp z
    obtain ⟨t1, t2⟩ := clsM_ok O ht
    rw [t2]
    exact pw_mth t1 ho ha (ab_of g2) (few_of g3 g4) g1 (ns_of es p1) (back_of p2)
theorem pw_mets0 (O : CtOk c X) {o : Expr} {m : Str} {wo : W} {w : W} {apos pos : Pos} (ho : PEw X o wo) (g1 : (apos.endLine == pos.line) = true) (g2 : attrX o = true)
    (h : metsW c m 0 wo wNil = some w) : PEw X (.Call (.Attribute o m apos) [] [] pos) w := by
  refine pw_all (fun v hv => ?_) h
  rcases List.mem_append.mp hv with z | z
  · obtain ⟨b, hb, rfl⟩ := List.mem_map.mp z
    obtain ⟨b1, b2, b3, b4⟩ := bltM_ok (X := X) O.hu1 hb
    exact pw_met0 b4 b1 b2 b3 ho (ab_of g2) g1
  · obtain ⟨t, ht, rfl⟩ := List.mem_map.mp z
    obtain ⟨t1, t2⟩ := clsM_ok O ht
    rw [t2]
    exact pw_mth0 t1 ho (ab_of g2) g1
theorem bltN_ok (O : CtOk c X) {y : Str} (h : bltN c y = true) : Gl X y ∧ X.mg y = none := by
  obtain ⟨h1, h2⟩ := Bool.and_eq_true_iff.mp h
  exact ⟨O.gl h2, O.B y (of_decide_eq_true h1)⟩
theorem snd_sx {n : Nat} (S : Snd n) (O : CtOk c X) {x : Str} {a : Expr} {es : List Expr} {s : Sx} {w : W} {p pos : Pos} (g1 : isGl (c.sc.names.lookup x) = true) (h : sxOf c x a es = some s)
    (hw : (match s with
      | .lstR b => (trE c n b).map fun w => wLstR (wCons w wNil)
      | .tupR b => (trE c n b).map fun w => wTupR (wCons w wNil)
      | .tupR2 b d => o2 (fun v w => wTupR (wCons v (wCons w wNil))) (trE c n b) (trE c n d)
      | .sset b => (trE c n b).map wSSet
      | .isi t b => (trE c n b).map (wIsi t)) = some w) (hp : plainX a = true) : PEw X (.Call (.Name x p) (a :: es) [] pos) w := by
  unfold sxOf at h
  split at h
  · rename_i ex
    subst ex
    split at h
    · obtain ⟨q, h⟩ := og_iff h
      cases h
      obtain ⟨wr, h1, rfl⟩ := map_iff hw
      rw [Bool.and_eq_true_iff, Bool.and_eq_true_iff, Bool.and_eq_true_iff] at q
      obtain ⟨⟨⟨q1, q2⟩, q3⟩, q4⟩ := q
      have hy := of_decide_eq_true q2
      subst hy
      obtain ⟨y1, y2⟩ := bltN_ok O q3
      exact pw_lstR1 O.calm (O.gl g1) (O.B _ (of_decide_eq_true q1)) y1 y2 (S.E _ _ _ _ O h1) (ns_of [] q4)
    · cases h
  split at h
  · rename_i ex
    subst ex
    split at h
    · obtain ⟨q, h⟩ := og_iff h
      cases h
      obtain ⟨wr, h1, rfl⟩ := map_iff hw
      rw [Bool.and_eq_true_iff, Bool.and_eq_true_iff, Bool.and_eq_true_iff] at q
      obtain ⟨⟨⟨q1, q2⟩, q3⟩, q4⟩ := q
      have hy := of_decide_eq_true q2
      subst hy
      obtain ⟨y1, y2⟩ := bltN_ok O q3
      exact pw_tupR1 O.calm (O.gl g1) (O.B _ (of_decide_eq_true q1)) y1 y2 (S.E _ _ _ _ O h1) (ns_of [] q4)
    · obtain ⟨q, h⟩ := og_iff h
      cases h
      obtain ⟨v, wr, h1, h2, rfl⟩ := o2_iff hw
      rw [Bool.and_eq_true_iff, Bool.and_eq_true_iff, Bool.and_eq_true_iff, Bool.and_eq_true_iff] at q
      obtain ⟨⟨⟨⟨q1, q2⟩, q3⟩, q4⟩, q5⟩ := q
      have hy := of_decide_eq_true q2
      subst hy
      obtain ⟨y1, y2⟩ := bltN_ok O q3
      exact pw_tupR2 O.calm (O.gl g1) (O.B _ (of_decide_eq_true q1)) y1 y2 (S.E _ _ _ _ O h1) (S.E _ _ _ _ O h2) (by rw [ns_of [_] q4]) (ns_of [] q5) (by rw [ns_of [] q5]; rfl)
    · cases h
  split at h
  · rename_i ex
    subst ex
    split at h
    · obtain ⟨q, h⟩ := og_iff h
      cases h
      obtain ⟨wr, h1, rfl⟩ := map_iff hw
      rw [Bool.and_eq_true_iff, Bool.and_eq_true_iff, Bool.and_eq_true_iff] at q
      obtain ⟨⟨⟨q1, q2⟩, q3⟩, q4⟩ := q
      have hy := of_decide_eq_true q2
      subst hy
      obtain ⟨y1, y2⟩ := bltN_ok O q3
      exact pw_sset (O.gl g1) (O.B _ (of_decide_eq_true q1)) y1 y2 (S.E _ _ _ _ O h1) O.calm (ns_of [] q4)
    · cases h
  split at h
  · rename_i ex
    subst ex
    split at h
    · obtain ⟨q, h⟩ := og_iff h
      obtain ⟨t, ht, rfl⟩ := map_iff h
      obtain ⟨wr, h1, rfl⟩ := map_iff hw
      obtain ⟨q1, q2⟩ := Bool.and_eq_true_iff.mp q
      obtain ⟨y1, y2⟩ := bltN_ok O q2
      exact pw_isi (O.gl g1) (O.B _ (of_decide_eq_true q1)) ht y1 y2 (S.E _ _ _ _ O h1) (ns_of _ hp)
    · cases h
  · cases h
theorem snd_E {n : Nat} (S : Snd n) : ∀ c X e w, CtOk c X → trE c (n + 1) e = some w → PEw X e w := by
  intro c X e w O h
  unfold trE at h
  split at h
  · obtain ⟨i, h1, rfl⟩ := map_iff h
    obtain ⟨a, b, d, e⟩ := O.slot h1
    exact pw_var a b d e
  · rename_i k _ _
    obtain ⟨d, h1, rfl⟩ := map_iff h
    cases k <;> cases h1
    · exact pw_cst pe_non fun _ _ => rfl
    · exact pw_cst pe_bl fun _ _ => rfl
    · exact pw_cst pe_int fun _ _ => rfl
    · exact pw_cst pe_str fun _ _ => rfl
  · obtain ⟨a, b, h1, h2, rfl⟩ := o2_iff h
    exact pw_bin (S.E _ _ _ _ O h1) (S.E _ _ _ _ O h2)
  · obtain ⟨a, h1, rfl⟩ := map_iff h
    exact pw_neg (S.E _ _ _ _ O h1)
  · obtain ⟨a, h1, rfl⟩ := map_iff h
    exact pw_notV (S.E _ _ _ _ O h1)
  · exact pw_one (S.E _ _ _ _ O h)
  · obtain ⟨a, b, h1, h2, rfl⟩ := o2_iff h
    exact pw_andV (S.E _ _ _ _ O h1) (S.E _ _ _ _ O h2)
  · obtain ⟨a, b, h1, h2, rfl⟩ := o2_iff h
    exact pw_orV (S.E _ _ _ _ O h1) (S.E _ _ _ _ O h2)
  · obtain ⟨t, ab, h1, h2, rfl⟩ := o2_iff h
    obtain ⟨a, b, h3, h4, rfl⟩ := o2_iff h2
    exact pw_if (S.T _ _ _ _ O h1) (S.E _ _ _ _ O h3) (S.E _ _ _ _ O h4)
  · obtain ⟨g, h⟩ := og_iff h
    obtain ⟨a, b, h1, h2, rfl⟩ := o2_iff h
    exact pw_cmp O.hu (S.E _ _ _ _ O h1) (S.E _ _ _ _ O h2) (bm_of g)
  · obtain ⟨g, h⟩ := og_iff h
    obtain ⟨a, bd, h1, h2, rfl⟩ := o2_iff h
    obtain ⟨b, d, h3, h4, rfl⟩ := o2_iff h2
    exact pw_chain O.hu (S.E _ _ _ _ O h1) (S.E _ _ _ _ O h3) (S.E _ _ _ _ O h4) (bm_of g)
  · obtain ⟨a, h1, rfl⟩ := map_iff h
    exact pw_tup (S.A _ _ _ _ O h1).1
  · obtain ⟨a, h1, rfl⟩ := map_iff h
    exact pw_lst (S.A _ _ _ _ O h1).1
  · obtain ⟨a, lh, h1, h2, rfl⟩ := o2_iff h
    obtain ⟨b, d, h3, h4, rfl⟩ := o2_iff h2
    exact pw_slc (S.E _ _ _ _ O h1) (S.O _ _ _ _ O h3) (S.O _ _ _ _ O h4)
  · obtain ⟨g, h⟩ := og_iff h
    obtain ⟨a, b, h1, h2, rfl⟩ := o2_iff h
    exact pw_idx O.hu1 (S.E _ _ _ _ O h1) (S.E _ _ _ _ O h2) (ix_of g)
  · obtain ⟨g, h⟩ := og_iff h
    split at h
    · rename_i cs hF
      obtain ⟨wo, h1, rfl⟩ := map_iff h
      exact pw_fld (O.F _ _ hF) (S.E _ _ _ _ O h1) (ab_of g)
    · cases h
  · cases h
    exact pw_dct
  · rename_i x p pos
    obtain ⟨g, h⟩ := og_iff h
    obtain ⟨g1, g2⟩ := Bool.and_eq_true_iff.mp g
    split at h
    · rename_i sp hC
      cases h
      exact pw_mak0 (O.C x 0 sp hC) (O.gl g1) (okName_of g2)
    · cases h
  · rename_i x p a es pos
    obtain ⟨g, h⟩ := og_iff h
    rw [Bool.and_eq_true_iff, Bool.and_eq_true_iff] at g
    obtain ⟨⟨g1, g2⟩, g3⟩ := g
    obtain ⟨g4, g5⟩ := Bool.and_eq_true_iff.mp g3
    split at h
    · rename_i m sp hG
      obtain ⟨wr, h1, rfl⟩ := map_iff h
      obtain ⟨k, f, fd, ps, F, hr, hm, hk, hb⟩ := O.G x m sp hG
      exact pw_call F hr (O.gl g1) hm hk hb (S.A _ _ _ _ O h1).1 (okName_of g2) (ns_of es g4) (back_of g5)
    split at h
    · rename_i m sp hG
      obtain ⟨wr, h1, rfl⟩ := map_iff h
      obtain ⟨k, f, fd, ps, F, hr, hm, hk, hb⟩ := O.GX x m sp hG
      exact pw_callX F hr (O.gl g1) hm hk hb (S.A _ _ _ _ O h1).1 (okName_of g2) (ns_of es g4) (back_of g5)
    split at h
    · rename_i m sp hG
      obtain ⟨wr, h1, rfl⟩ := map_iff h
      exact pw_mak (O.C x m sp hG) (O.gl g1) (S.A _ _ _ _ O h1).1 (okName_of g2) (ns_of es g4) (back_of g5)
    split at h
    · rename_i hs
      exact snd_sx S O g1 hs h g4
    · rename_i hs
      exact snd_sx S O g1 hs h g4
    · rename_i hs
      exact snd_sx S O g1 hs h g4
    · rename_i hs
      exact snd_sx S O g1 hs h g4
    · rename_i hs
      exact snd_sx S O g1 hs h g4
    · split at h
      · rename_i ti o hb
        obtain ⟨q, h⟩ := og_iff h
        obtain ⟨wr, h1, rfl⟩ := map_iff h
        obtain ⟨t, id⟩ := ti
        cases t with
        | false =>
          obtain ⟨b1, b2, b3⟩ := blt_B (X := X) hb
          exact pw_bltB b1 (O.gl g1) (O.B x (of_decide_eq_true q)) b2 (S.A _ _ _ _ O h1).1 b3 (okName_of g2) (ns_of es g4) (back_of g5)
        | true =>
          obtain ⟨b1, b2, b3⟩ := blt_T (X := X) hb
          exact pw_bltT b1 (O.gl g1) (O.B x (of_decide_eq_true q)) b2 (S.A _ _ _ _ O h1).1 b3 (okName_of g2) (ns_of es g4) (back_of g5)
      · cases h
  · rename_i o m apos a es pos
    obtain ⟨g, h⟩ := og_iff h
    rw [Bool.and_eq_true_iff, Bool.and_eq_true_iff, Bool.and_eq_true_iff] at g
    obtain ⟨⟨⟨g1, g2⟩, g3⟩, g4⟩ := g
    split at h
    · rename_i wo wa h1 h2
      exact pw_mets O (S.E _ _ _ _ O h1) (S.A _ _ _ _ O h2).1 g1 g2 g3 (of_decide_eq_true g4) h
    · cases h
  · rename_i o m apos pos
    obtain ⟨g, h'⟩ := og_iff h
    clear h
    obtain ⟨g1, g2⟩ := Bool.and_eq_true_iff.mp g
    split at h'
    · rename_i e
      subst e
      obtain ⟨wo, h1, rfl⟩ := map_iff h'
      exact pw_bits (S.E _ _ _ _ O h1) (ab_of g2) g1
    · split at h'
      · rename_i wo h1
        exact pw_mets0 O (S.E _ _ _ _ O h1) g1 g2 h'
      · cases h'
  · obtain ⟨wi, p, t, e, L, rfl⟩ := snd_lc S O h
    exact pw_lc O.calm O.cN L.hi L.ok L.mt L.me L.hp L.hg L.ht L.he (fs_of L.pl)
  · cases h
theorem snd_T {n : Nat} (S : Snd n) : ∀ c X e w, CtOk c X → trT c (n + 1) e = some w → PTw X e w := by
  intro c X e w O h
  unfold trT at h
  split at h
  · obtain ⟨a, h1, rfl⟩ := map_iff h
    exact pw_notT (S.T _ _ _ _ O h1)
  · exact (S.W _ _ _ _ O h).pt
  · obtain ⟨g, h⟩ := og_iff h
    obtain ⟨a, b, h1, h2, rfl⟩ := o2_iff h
    exact pw_cmpT O.hu (S.E _ _ _ _ O h1) (S.E _ _ _ _ O h2) (bm_of g)
  · obtain ⟨g, h⟩ := og_iff h
    obtain ⟨a, bd, h1, h2, rfl⟩ := o2_iff h
    obtain ⟨b, d, h3, h4, rfl⟩ := o2_iff h2
    exact pw_chainT O.hu (S.E _ _ _ _ O h1) (S.E _ _ _ _ O h3) (S.E _ _ _ _ O h4) (bm_of g)
  · obtain ⟨g, h⟩ := og_iff h
    obtain ⟨a, h1, rfl⟩ := map_iff h
    exact pw_truth (S.E _ _ _ _ O h1) (tr_of g)
theorem snd_W {n : Nat} (S : Snd n) : ∀ c X e w, CtOk c X → trB c (n + 1) e = some w → PWw X e w := by
  intro c X e w O h
  unfold trB at h
  split at h
  · rename_i op a pos
    cases op with
    | And => exact pw_and1T (S.T _ _ _ _ O h)
    | Or => exact pw_or1T (S.T _ _ _ _ O h)
  · obtain ⟨a, b, h1, h2, rfl⟩ := o2_iff h
    exact pw_andT (S.T _ _ _ _ O h1) (S.W _ _ _ _ O h2)
  · obtain ⟨a, b, h1, h2, rfl⟩ := o2_iff h
    exact pw_orT (S.T _ _ _ _ O h1) (S.W _ _ _ _ O h2)
  · cases h
theorem snd_A {n : Nat} (S : Snd n) : ∀ c X es w, CtOk c X → trA c (n + 1) es = some w → PAw X es w ∧ LenA es.length w := by
  intro c X es w O h
  unfold trA at h
  split at h
  · cases h
    exact ⟨pw_nil, fun ρ S Q q => ⟨rfl, q⟩⟩
  · rename_i e r
    obtain ⟨g, h⟩ := og_iff h
    obtain ⟨a, b, h1, h2, rfl⟩ := o2_iff h
    have E1 := S.E _ _ _ _ O h1
    obtain ⟨A1, L1⟩ := S.A _ _ _ _ O h2
    refine ⟨pw_cons E1 A1 (ns_of r g), fun ρ S Q q => E1.mono _ _ _ _ (fun x S1 q1 => ?_) q⟩
    exact A1.mono _ _ _ _ (fun ds S2 q2 => ⟨by rw [List.length_cons, List.length_cons, q2.1], q2.2⟩) (L1 _ _ _ q1)
theorem snd_O {n : Nat} (S : Snd n) : ∀ c X o w, CtOk c X → trO c (n + 1) o = some w → POw X o w := by
  intro c X o w O h
  unfold trO at h
  split at h
  · cases h
    exact pw_oNone
  · obtain ⟨a, h1, rfl⟩ := map_iff h
    exact pw_oSome (S.E _ _ _ _ O h1)
theorem snd_C {n : Nat} (S : Snd n) : ∀ c X o w, CtOk c X → trC c (n + 1) o = some w → PTsw X o w := by
  intro c X o w O h
  unfold trC at h
  split at h
  · cases h
    exact pw_ifs0
  · exact pw_ifs1 (S.T _ _ _ _ O h)
  · cases h
theorem snd_I {n : Nat} (S : Snd n) : ∀ c X tg e w, CtOk c X → trI c (n + 1) tg e = some w → PIw X tg e w := by
  intro c X tg e w O h
  unfold trI at h
  split at h
  · rename_i x p as pos
    split at h
    · rename_i ex
      subst ex
      obtain ⟨g, h⟩ := og_iff h
      obtain ⟨wr, h1, rfl⟩ := map_iff h
      obtain ⟨A1, L1⟩ := S.A _ _ _ _ O h1
      rw [Bool.and_eq_true_iff, Bool.and_eq_true_iff, Bool.and_eq_true_iff] at g
      obtain ⟨⟨⟨g1, g2⟩, g3⟩, g4⟩ := g
      have hm := O.B _ (of_decide_eq_true g2)
      match as, g3, g4, A1, L1 with
      | [a], g3, _, A1, L1 =>
        obtain ⟨p1, _⟩ := Bool.and_eq_true_iff.mp g3
        exact pw_rng1 (O.gl g1) hm A1 L1 (ns_of [] p1)
      | [a, b], g3, _, A1, L1 =>
        obtain ⟨p1, p2⟩ := Bool.and_eq_true_iff.mp g3
        obtain ⟨p2, _⟩ := Bool.and_eq_true_iff.mp p2
        exact pw_rng2 (O.gl g1) hm A1 L1 (by rw [ns_of [b] p1, ns_of [] p2]; rfl) (ns_of [] p2)
      | [a, b, d], g3, _, A1, L1 =>
        obtain ⟨p1, p2⟩ := Bool.and_eq_true_iff.mp g3
        exact pw_rng3 (O.gl g1) hm A1 L1 (ns_of [b, d] p1) (back_of p2)
      | [], _, g4, _, _ => simp at g4
      | _ :: _ :: _ :: _ :: _, _, g4, _, _ => simp at g4
    · split at h
      · rename_i ex
        subst ex
        obtain ⟨g, h⟩ := og_iff h
        obtain ⟨wr, h1, rfl⟩ := map_iff h
        obtain ⟨A1, L1⟩ := S.A _ _ _ _ O h1
        rw [Bool.and_eq_true_iff, Bool.and_eq_true_iff, Bool.and_eq_true_iff, Bool.and_eq_true_iff] at g
        obtain ⟨⟨⟨⟨g1, g2⟩, g3⟩, g4⟩, g5⟩ := g
        have hm := O.B _ (of_decide_eq_true g2)
        cases tg <;> try (exact absurd g5 Bool.false_ne_true)
        match as, g3, g4, A1 with
        | [a], g3, _, A1 =>
          obtain ⟨p1, _⟩ := Bool.and_eq_true_iff.mp g3
          exact pw_enum (O.gl g1) hm A1 (ns_of [] p1)
        | [], _, g4, _ => simp at g4
        | _ :: _ :: _, _, g4, _ => simp at g4
      · obtain ⟨w1, h1, rfl⟩ := map_iff h
        exact pw_seqI (S.E _ _ _ _ O h1)
  · obtain ⟨w1, h1, rfl⟩ := map_iff h
    exact pw_seqI (S.E _ _ _ _ O h1)
theorem snd : ∀ n, Snd n
  | 0 => ⟨fun _ _ _ _ _ h => (by cases h), fun _ _ _ _ _ h => (by cases h), fun _ _ _ _ _ h => (by cases h), fun _ _ _ _ _ h => (by cases h), fun _ _ _ _ _ h => (by cases h), fun _ _ _ _ _ h => (by cases h), fun _ _ _ _ _ _ h => (by cases h)⟩
  | n + 1 => ⟨snd_E (snd n), snd_T (snd n), snd_W (snd n), snd_A (snd n), snd_O (snd n), snd_C (snd n), snd_I (snd n)⟩
end
end WW


set_option Elab.async false
set_option linter.all false
set_option maxRecDepth 100000
set_option maxHeartbeats 4000000
set_option autoImplicit false
namespace WW
open PySem PySem.Spec PyProof.Rows L2

mutual
def trS (c : Ct) : Nat → Stmt → Option WS
  | 0, _ => none
  | n + 1, s => match s with
    | .Return none _ => some wRetN
    | .Return (some e) _ => (trE c n e).map wRet
    | .Expr e _ => og (!isComp e) ((trE c n e).map wDrop)
    | .Assign [.Name x _] e _ => o2 wAsg (slotS c x) (trE c n e)
    | .Assign [.Tuple es k p] e _ => og (!isComp e && !isTup e) (o2 wAsgP (trP c (.Tuple es k p)) (trE c n e))
    | .Assign [.Attribute o f _] e _ => og (!isComp e) (match c.L.F.lookup f with
      | some cs => o2 (wFSet cs f) (trE c n o) (trE c n e)
      | none => none)
    | .Assign [.Subscript o i _] e _ => og (!isComp e && plainX i) (o2 (fun o ie => wSet o ie.1 ie.2) (trE c n o) (o2 Prod.mk (trE c n i) (trE c n e)))
    | .If t a b _ => o2 (fun t ab => wIfS t ab.1 ab.2) (trT c n t) (o2 Prod.mk (trL c n a) (trL c n b))
    | .While t b [] _ => o2 wWhl (trT c n t) (trL c n b)
    | .For tg (.Name x _) b [] _ => o2 (fun i pb => wForN i pb.1 pb.2) (slot c x) (o2 Prod.mk (trP c tg) (trL c n b))
    | .For tg it b [] _ => og (plainX it) (o2 (fun wi pb => wFor wi pb.1 pb.2) (trI c n tg it) (o2 Prod.mk (trP c tg) (trL c n b)))
    | .Break _ => some wBrk
    | .Continue _ => some wCnt
    | .Pass _ => some wPas
    | _ => none
def trL (c : Ct) : Nat → List Stmt → Option WS
  | 0, _ => none
  | n + 1, ss => match ss with
    | [] => some wPas
    | [s] => trS c n s
    | s :: r => o2 wSq (trS c n s) (trL c n r)
end
structure SndS (n : Nat) : Prop where
  S : ∀ c X s w, CtOk c X → trS c n s = some w → PSw X s w
  L : ∀ c X s w, CtOk c X → trL c n s = some w → PBw X s w
theorem notB {b : Bool} (h : (!b) = true) : b = false := by cases b with
  | false => rfl
  | true => cases h
theorem asg_S {c : Ct} {X : Cx} {n : Nat} {x : Str} {e : Expr} {i : Nat} {w : W} {px pos : Pos} (O : CtOk c X) (h1 : WW.slotS c x = some i) (h2 : trE c n e = some w) : PSw X (.Assign [.Name x px] e pos) (wAsg i w) := by
  obtain ⟨a, b, d⟩ := O.slotS h1
  have P := (snd n).E _ _ _ _ O h2
  cases hc : isComp e with
  | false => exact pw_asg O.cN a b P (sw_of hc) d
  | true =>
    cases n with
    | zero => cases h2
    | succ n =>
      cases e with
      | ListComp elt gens scope p' =>
        match gens, h2, P with
        | [⟨tg, it, ifs, 0⟩], h2, P =>
          obtain ⟨wi, p, t, e, L, rfl⟩ := snd_lc (snd n) O h2
          have hsw : swapsWith (.ListComp elt [⟨tg, it, ifs, 0⟩] scope p') (some (.Name x px)) pos.line X.env = pure (X.env.blockKind == .function && X.env.kindOf x == some .local && px.line == p'.line && !(scope.names.any fun (n, k) => n == x && (k == .local || k == .cell))) := rfl
          cases hb : (X.env.blockKind == .function && X.env.kindOf x == some .local && px.line == p'.line && !(scope.names.any fun (n, k) => n == x && (k == .local || k == .cell))) with
          | false => exact pw_asg O.cN a b P (by rw [hsw, hb]) d
          | true =>
            have hk : X.env.kindOf x = some .local := by
              rw [Bool.and_eq_true_iff, Bool.and_eq_true_iff, Bool.and_eq_true_iff] at hb
              exact eq_of_beq hb.1.1.2
            exact pw_setLc O.calm O.cN a hk (by rw [hsw, hb]) L.hi L.ok L.mt L.me L.hp L.hg L.ht L.he (fs_of L.pl)
        | [], h2, _ => cases h2
        | [⟨_, _, _, Int.ofNat (_ + 1)⟩], h2, _ => cases h2
        | [⟨_, _, _, Int.negSucc _⟩], h2, _ => cases h2
        | ⟨_, _, _, Int.ofNat 0⟩ :: _ :: _, h2, _ => cases h2
        | ⟨_, _, _, Int.ofNat (_ + 1)⟩ :: _ :: _, h2, _ => cases h2
        | ⟨_, _, _, Int.negSucc _⟩ :: _ :: _, h2, _ => cases h2
      | SetComp _ _ _ _ => cases h2
      | DictComp _ _ _ _ _ => cases h2
      | _ => cases hc
theorem sws_of {env : PySem.Env} {e : Expr} {t : Expr} {l : Nat} (h : isComp e = false) : swapsWithSole [t] e l env = pure false := sw_of h
theorem sndS_S {n : Nat} (Z : SndS n) : ∀ c X s w, CtOk c X → trS c (n + 1) s = some w → PSw X s w := by
  intro c X s w O h
  unfold trS at h
  split at h
  · cases h
    exact pw_retN
  · obtain ⟨a, h1, rfl⟩ := map_iff h
    exact pw_ret ((snd n).E _ _ _ _ O h1)
  · obtain ⟨g, h⟩ := og_iff h
    obtain ⟨a, h1, rfl⟩ := map_iff h
    exact pw_drop ((snd n).E _ _ _ _ O h1) (sw_of (notB g))
  · obtain ⟨i, a, h1, h2, rfl⟩ := o2_iff h
    exact asg_S O h1 h2
  · obtain ⟨g, h⟩ := og_iff h
    obtain ⟨g1, g2⟩ := Bool.and_eq_true_iff.mp g
    obtain ⟨p, a, h1, h2, rfl⟩ := o2_iff h
    exact pw_asgP (O.pg h1) ((snd n).E _ _ _ _ O h2) (sws_of (notB g1)) (ss_of (notB g2)) rfl
  · obtain ⟨g, h⟩ := og_iff h
    split at h
    · rename_i cs hF
      obtain ⟨wo, we, h1, h2, rfl⟩ := o2_iff h
      exact pw_fset (O.F _ _ hF) ((snd n).E _ _ _ _ O h1) ((snd n).E _ _ _ _ O h2) (sw_of (notB g))
    · cases h
  · rename_i o i p e pos
    obtain ⟨g, h⟩ := og_iff h
    obtain ⟨g1, g2⟩ := Bool.and_eq_true_iff.mp g
    obtain ⟨wo, ie, h1, h2, rfl⟩ := o2_iff h
    obtain ⟨wi, we, h3, h4, rfl⟩ := o2_iff h2
    refine pw_setS O.hu1 ((snd n).E _ _ _ _ O h1) ((snd n).E _ _ _ _ O h3) ((snd n).E _ _ _ _ O h4) ?_ (sws_of (notB g1)) ?_ rfl
    · intro v
      cases i <;> first | rfl | exact absurd g2 Bool.false_ne_true
    · cases e <;> rfl
  · obtain ⟨t, ab, h1, h2, rfl⟩ := o2_iff h
    obtain ⟨a, b, h3, h4, rfl⟩ := o2_iff h2
    exact pw_ifS ((snd n).T _ _ _ _ O h1) (Z.L _ _ _ _ O h3) (Z.L _ _ _ _ O h4)
  · obtain ⟨t, b, h1, h2, rfl⟩ := o2_iff h
    exact pw_whl O.pp ((snd n).T _ _ _ _ O h1) (Z.L _ _ _ _ O h2)
  · obtain ⟨i, pb, h1, h2, rfl⟩ := o2_iff h
    obtain ⟨p, b, h3, h4, rfl⟩ := o2_iff h2
    obtain ⟨a1, a2, a3, a4⟩ := O.slot h1
    exact pw_forN O.pp O.calm (pw_var a1 a2 a3 a4) (O.pg h3) (Z.L _ _ _ _ O h4)
  · obtain ⟨g, h⟩ := og_iff h
    obtain ⟨wi, pb, h1, h2, rfl⟩ := o2_iff h
    obtain ⟨p, b, h3, h4, rfl⟩ := o2_iff h2
    exact pw_for O.pp O.calm ((snd n).I _ _ _ _ _ O h1) (O.pg h3) (Z.L _ _ _ _ O h4) (fs_of g)
  · cases h
    exact pw_brk
  · cases h
    exact pw_cnt
  · cases h
    exact pw_pas
  · cases h
theorem sndS_L {n : Nat} (Z : SndS n) : ∀ c X s w, CtOk c X → trL c (n + 1) s = some w → PBw X s w := by
  intro c X s w O h
  unfold trL at h
  split at h
  · cases h
    exact pw_sNil
  · exact pw_sOne (Z.S _ _ _ _ O h)
  · obtain ⟨a, b, h1, h2, rfl⟩ := o2_iff h
    exact pw_sCons (Z.S _ _ _ _ O h1) (Z.L _ _ _ _ O h2)
theorem sndS : ∀ n, SndS n
  | 0 => ⟨fun _ _ _ _ _ h => (by cases h), fun _ _ _ _ _ h => (by cases h)⟩
  | n + 1 => ⟨sndS_S (sndS n), sndS_L (sndS n)⟩

/-! ### a def: from its clean code to the machine's promise -/
def ctOf (N : List Str) (st : Stmt) (G : List (Str × Nat × Spec)) (B : List Str) (L : Kl) : Ct := ⟨N, defScope st, fun x => isLoc ((defScope st).names.lookup x), G, B, L⟩
def kkOf (Q : Q1) : KK := ⟨fun _ S => Q .non S, Q, fun _ _ => False, fun _ _ => False, fun _ _ _ _ => False⟩
def kkX (Q : Q1) (E : XQ) : KK := ⟨fun _ S => Q .non S, Q, fun _ _ => False, fun _ _ => False, fun c fs _ S => E c fs S⟩
def rhoOf (n : Nat) (ds : List D) : Rho := ds.map some ++ List.replicate (n - ds.length) none
/-- the clean code keeps the promise -/
def Good (n m : Nat) (code : WS) (sp : Spec) : Prop := ∀ ds S Q, ds.length = m → sp ds S Q → code (kkOf Q) (rhoOf n ds) S
def GoodX (n m : Nat) (code : WS) (sp : SpecX) : Prop := ∀ ds S Q E, ds.length = m → sp ds S Q E → code (kkX Q E) (rhoOf n ds) S
/-- a def that may be called -/
structure Known (P : Program) (w : World) (K : PySem.W.Frag) (mg : Str → Option Value) (base : Heap) (k : Nat) (x : Str) (m : Nat) (sp : Spec) : Prop where
  ok : ∃ f fd ps, FnOk P w K mg base CX0 k f fd ps (spOf ⟨K, clOf mg⟩ m sp) ∧ mg x = some (.ref f) ∧ PySem.W.keepIn K (.ref f) = true ∧ Binds K fd ps []
structure KnownX (P : Program) (w : World) (K : PySem.W.Frag) (mg : Str → Option Value) (base : Heap) (k : Nat) (x : Str) (m : Nat) (sp : SpecX) : Prop where
  ok : ∃ f fd ps, FnOk P w K mg base (L2.CX P w) k f fd ps (spOfX ⟨K, clOf mg⟩ m sp) ∧ mg x = some (.ref f) ∧ PySem.W.keepIn K (.ref f) = true ∧ Binds K fd ps []
structure KnownM (P : Program) (w : World) (K : PySem.W.Frag) (mg : Str → Option Value) (base : Heap) (k : Nat) (c m : Str) (n : Nat) (sp : Spec) : Prop where
  ok : ∃ f fd ps, FnOk P w K mg base CX0 k f fd ps (spOf ⟨K, clOf mg⟩ (n + 1) sp) ∧ Cls K (clOf mg c) ∧ Meth K (clOf mg c) m f ∧ Binds K fd ps []
structure KnownC (P : Program) (w : World) (K : PySem.W.Frag) (mg : Str → Option Value) (base : Heap) (k : Nat) (c : Str) (n : Nat) (sp : Spec) : Prop where
  ok : ∃ j C f fd ps, j + 1 ≤ k ∧ FnOk P w K mg base CX0 j f fd ps (spOf ⟨K, clOf mg⟩ (n + 1) sp) ∧ mg c = some (.ref C) ∧ Mk K C f ∧ Binds K fd ps []
structure KlOk (P : Program) (w : World) (K : PySem.W.Frag) (mg : Str → Option Value) (base : Heap) (k : Nat) (L : Kl) : Prop where
  F : ∀ f cs, L.F.lookup f = some cs → ∀ x ∈ cs, Cls K (clOf mg x) ∧ NoAttr K (clOf mg x) f
  M : ∀ m ms, L.M.lookup m = some ms → ∀ t ∈ ms, KnownM P w K mg base k t.1 m t.2.1 t.2.2
  C : ∀ x n sp, L.C.lookup x = some (n, sp) → KnownC P w K mg base k x n sp
  X : ∀ x n sp, L.X.lookup x = some (n, sp) → KnownX P w K mg base k x n sp
section
variable {P : Program} {w : World} {K : PySem.W.Frag} {mg : Str → Option Value} {base : Heap}
theorem Known.mono {j k : Nat} {x : Str} {m : Nat} {sp : Spec} (h : Known P w K mg base j x m sp) (e : j ≤ k) : Known P w K mg base k x m sp :=
  let ⟨f, fd, ps, a, b⟩ := h.ok
  ⟨f, fd, ps, a.mono e, b⟩
theorem KnownX.mono {j k : Nat} {x : Str} {m : Nat} {sp : SpecX} (h : KnownX P w K mg base j x m sp) (e : j ≤ k) : KnownX P w K mg base k x m sp :=
  let ⟨f, fd, ps, a, b⟩ := h.ok
  ⟨f, fd, ps, a.mono e, b⟩
theorem KnownM.mono {j k : Nat} {c x : Str} {m : Nat} {sp : Spec} (h : KnownM P w K mg base j c x m sp) (e : j ≤ k) : KnownM P w K mg base k c x m sp :=
  let ⟨f, fd, ps, a, b⟩ := h.ok
  ⟨f, fd, ps, a.mono e, b⟩
theorem KnownC.mono {j k : Nat} {x : Str} {m : Nat} {sp : Spec} (h : KnownC P w K mg base j x m sp) (e : j ≤ k) : KnownC P w K mg base k x m sp :=
  let ⟨i, C, f, fd, ps, a, b⟩ := h.ok
  ⟨i, C, f, fd, ps, Nat.le_trans a e, b⟩
theorem KlOk.mono {j k : Nat} {L : Kl} (h : KlOk P w K mg base j L) (e : j ≤ k) : KlOk P w K mg base k L :=
  ⟨h.F, fun m ms a t b => (h.M m ms a t b).mono e, fun x n sp a => (h.C x n sp a).mono e, fun x n sp a => (h.X x n sp a).mono e⟩
theorem klOk0 {k : Nat} : KlOk P w K mg base k kl0 := ⟨fun _ _ h => (nomatch h), fun _ _ h => (nomatch h), fun _ _ _ h => (nomatch h), fun _ _ _ h => (nomatch h)⟩
/-- the context of a def's body -/
theorem ct_ok {X : Cx} {k : Nat} {N : List Str} {st : Stmt} {G : List (Str × Nat × Spec)} {B : List Str} {L : Kl} (eP : X.prog = P) (ew : X.w = w) (eK : X.K = K) (em : X.mg = mg) (eb : X.base = base) (eN : X.N = N) (nd : N.Nodup) (es : X.env.scope = defScope st) (ec : X.calm = true) (ef : X.fn = fun _ => true)
    (pp : PassesOwn (model X.prog X.w) X.A X.env X.xe) (hr : Room k X.A)
    (hG : ∀ y m sp, G.lookup y = some (m, sp) → Known P w K mg base k y m sp) (hB : ∀ y ∈ B, mg y = none) (hL : KlOk P w K mg base k L) : CtOk (ctOf N st G B L) X := by
  subst eP ew eK em eb
  refine ⟨eN, nd, es, ec, pp, fun y hy => ?_, fun y m sp hy => ?_, fun y m sp hy => ?_, fun f cs hf x hx => hL.F f cs hf x hx, fun m ms h t ht => ?_, fun x n sp h => ?_, hB, ?_⟩
  · have hy : isLoc ((defScope st).names.lookup y) = true := hy
    refine ⟨?_, .inl (by rw [ef])⟩
    show X.env.scope.names.lookup y = some .local ∨ X.env.scope.names.lookup y = some .cell
    rw [es]
    revert hy
    cases (defScope st).names.lookup y with
    | none => intro z; cases z
    | some k => cases k <;> simp [isLoc]
  · obtain ⟨f, fd, ps, a, b, d, e⟩ := (hG y m sp hy).ok
    exact ⟨k, f, fd, ps, a, hr, b, d, e⟩
  · obtain ⟨f, fd, ps, a, b, d, e⟩ := (hL.X y m sp hy).ok
    exact ⟨k, f, fd, ps, a, hr, b, d, e⟩
  · obtain ⟨f, fd, ps, a, b, d, e⟩ := (hL.M m ms h t ht).ok
    exact ⟨k, f, fd, ps, a, hr, b, d, e⟩
  · obtain ⟨j, C, f, fd, ps, l, a, b, d, e⟩ := (hL.C x n sp h).ok
    exact ⟨j, C, f, fd, ps, a, hr.mono l, b, d, e⟩
  · have := hr.un
    omega
theorem def_ok {x qual : Str} {st : Stmt} {f : Addr} {fd : FuncData} {N ps : List Str} {k n : Nat} {G : List (Str × Nat × Spec)} {B : List Str} {L : Kl} {sp : Spec} {code : WS} (F : Fun K x qual st f fd) (S : FnScope N ps (defScope st))
    (hG : ∀ y m sp, G.lookup y = some (m, sp) → Known P w K mg base k y m sp) (hB : ∀ y ∈ B, mg y = none) (hL : KlOk P w K mg base k L) (tr : trL (ctOf N st G B L) n (defBody st) = some code) (good : Good N.length ps.length code sp) :
    FnOk P w K mg base CX0 (k + 1) f fd ps (spOf ⟨K, clOf mg⟩ ps.length sp) := by
  refine F.ok S (fun vs H Q E h => ?_) (fun cdv A outer s H vs Q E hr h => ?_)
  · obtain ⟨ι, S, ds, R, r, hl, _⟩ := h
    rw [← r.length]; exact hl
  · obtain ⟨ι, S0, ds, R, r, hl, Q0, q0, q1⟩ := h
    generalize hX : (cxOf CX0 P w K mg base N qual (defScope st) f cdv A outer s H E).nox = X
    have ek : kf X = ⟨K, clOf mg⟩ := by
      rw [← hX]
      rfl
    have O : CtOk (ctOf N st G B L) X := by
      rw [← hX]
      exact ct_ok rfl rfl rfl rfl rfl rfl S.nd rfl rfl rfl PassesOwn.never hr hG hB hL
    have B := (sndS n).L _ _ _ _ O tr
    refine ⟨_, B.ps noY takesNo, kkOf Q0, rhoOf N.length ds, ι, S0, ?_, ?_, ?_, good ds S0 Q0 hl q0⟩
    · rw [ek]
      have e := RepR.start r (N.length - ds.length)
      unfold rhoOf L2.start
      rw [← r.length]
      exact e
    · rw [ek]; exact R
    · rw [ek]
      exact ⟨fun ρ S1 σ H1 ι1 T R1 E1 q => q1 _ _ q .non H1 ι1 T R1 rfl, fun d S1 v H1 ι1 T R1 rv q => q1 _ _ q v H1 ι1 T R1 rv, fun ρ S1 σ H1 ι1 T R1 E1 q => q.elim, fun ρ S1 σ H1 ι1 T R1 E1 q => q.elim, fun c fs ρ S1 σ H1 ι1 cls d T R1 E1 xr q => q.elim⟩
theorem def_okX {x qual : Str} {st : Stmt} {f : Addr} {fd : FuncData} {N ps : List Str} {k n : Nat} {G : List (Str × Nat × Spec)} {B : List Str} {L : Kl} {sp : SpecX} {code : WS} (F : Fun K x qual st f fd) (S : FnScope N ps (defScope st))
    (hG : ∀ y m sp, G.lookup y = some (m, sp) → Known P w K mg base k y m sp) (hB : ∀ y ∈ B, mg y = none) (hL : KlOk P w K mg base k L) (tr : trL (ctOf N st G B L) n (defBody st) = some code) (good : GoodX N.length ps.length code sp) :
    FnOk P w K mg base (L2.CX P w) (k + 1) f fd ps (spOfX ⟨K, clOf mg⟩ ps.length sp) := by
  refine F.okX S (fun vs H Q E h => ?_) (fun cdv A outer s H vs Q E hr h => ?_)
  · obtain ⟨ι, S, ds, xx, R, r, _, hl, _⟩ := h
    rw [← r.length]; exact hl
  · obtain ⟨ι, S0, ds, xx, R, r, ex, hl, Q0, E0, q0, q1, q2⟩ := h
    have tk : Takes (cxOf (L2.CX P w) P w K mg base N qual (defScope st) f cdv A outer s H E) (fun cls d _ H => E cls d H) := takes_of rfl rfl rfl rfl
    have O : CtOk (ctOf N st G B L) (cxOf (L2.CX P w) P w K mg base N qual (defScope st) f cdv A outer s H E) :=
      ct_ok rfl rfl rfl rfl rfl rfl S.nd rfl rfl rfl (passes_of rfl) hr hG hB hL
    have B := (sndS n).L _ _ _ _ O tr
    refine ⟨_, B.ps _ tk, kkX Q0 E0, rhoOf N.length ds, ι, S0, ?_, R, ?_, good ds S0 Q0 E0 hl q0⟩
    · have e := RepR.start r (N.length - ds.length)
      unfold rhoOf L2.start
      rw [← r.length]
      exact e
    · exact ⟨fun ρ S1 σ H1 ι1 T R1 E1 q => q1 _ _ q .non H1 ι1 T R1 rfl, fun d S1 v H1 ι1 T R1 rv q => q1 _ _ q v H1 ι1 T R1 rv, fun ρ S1 σ H1 ι1 T R1 E1 q => q.elim, fun ρ S1 σ H1 ι1 T R1 E1 q => q.elim,
        fun c fs ρ S1 σ H1 ι1 cls d T R1 E1 xr q => ex c fs S1 H1 ι1 cls d T R1 xr (q2 c fs S1 q)⟩
theorem known {x qual : Str} {st : Stmt} {f : Addr} {fd : FuncData} {N ps : List Str} {k n : Nat} {G : List (Str × Nat × Spec)} {B : List Str} {L : Kl} {sp : Spec} {code : WS} (F : Fun K x qual st f fd) (S : FnScope N ps (defScope st))
    (hG : ∀ y m sp, G.lookup y = some (m, sp) → Known P w K mg base k y m sp) (hB : ∀ y ∈ B, mg y = none) (hL : KlOk P w K mg base k L) (tr : trL (ctOf N st G B L) n (defBody st) = some code) (good : Good N.length ps.length code sp) (hm : mg x = some (.ref f)) (hb : Binds K fd ps []) :
    Known P w K mg base (k + 1) x ps.length sp := ⟨f, fd, ps, def_ok F S hG hB hL tr good, hm, F.kp, hb⟩
theorem knownX {x qual : Str} {st : Stmt} {f : Addr} {fd : FuncData} {N ps : List Str} {k n : Nat} {G : List (Str × Nat × Spec)} {B : List Str} {L : Kl} {sp : SpecX} {code : WS} (F : Fun K x qual st f fd) (S : FnScope N ps (defScope st))
    (hG : ∀ y m sp, G.lookup y = some (m, sp) → Known P w K mg base k y m sp) (hB : ∀ y ∈ B, mg y = none) (hL : KlOk P w K mg base k L) (tr : trL (ctOf N st G B L) n (defBody st) = some code) (good : GoodX N.length ps.length code sp) (hm : mg x = some (.ref f)) (hb : Binds K fd ps []) :
    KnownX P w K mg base (k + 1) x ps.length sp := ⟨f, fd, ps, def_okX F S hG hB hL tr good, hm, F.kp, hb⟩
theorem knownM {c m qual : Str} {st : Stmt} {f : Addr} {fd : FuncData} {N ps : List Str} {k n a : Nat} {G : List (Str × Nat × Spec)} {B : List Str} {L : Kl} {sp : Spec} {code : WS} (F : Fun K m qual st f fd) (S : FnScope N ps (defScope st))
    (hG : ∀ y m sp, G.lookup y = some (m, sp) → Known P w K mg base k y m sp) (hB : ∀ y ∈ B, mg y = none) (hL : KlOk P w K mg base k L) (tr : trL (ctOf N st G B L) n (defBody st) = some code) (good : Good N.length ps.length code sp) (ha : ps.length = a + 1) (hc : Cls K (clOf mg c)) (hm : Meth K (clOf mg c) m f) (hb : Binds K fd ps []) :
    KnownM P w K mg base (k + 1) c m a sp := ⟨f, fd, ps, by rw [← ha]; exact def_ok F S hG hB hL tr good, hc, hm, hb⟩
theorem knownC {c m qual : Str} {st : Stmt} {C f : Addr} {fd : FuncData} {N ps : List Str} {k n a : Nat} {G : List (Str × Nat × Spec)} {B : List Str} {L : Kl} {sp : Spec} {code : WS} (F : Fun K m qual st f fd) (S : FnScope N ps (defScope st))
    (hG : ∀ y m sp, G.lookup y = some (m, sp) → Known P w K mg base k y m sp) (hB : ∀ y ∈ B, mg y = none) (hL : KlOk P w K mg base k L) (tr : trL (ctOf N st G B L) n (defBody st) = some code) (good : Good N.length ps.length code sp) (ha : ps.length = a + 1) (hm : mg c = some (.ref C)) (hM : Mk K C f) (hb : Binds K fd ps []) :
    KnownC P w K mg base (k + 2) c a sp := ⟨k + 1, C, f, fd, ps, Nat.le_refl _, by rw [← ha]; exact def_ok F S hG hB hL tr good, hm, hM, hb⟩
theorem known_nil {k : Nat} : ∀ (y : Str) (m : Nat) (sp : Spec), ([] : List (Str × Nat × Spec)).lookup y = some (m, sp) → Known P w K mg base k y m sp := fun _ _ _ h => nomatch h
theorem known_cons {k : Nat} {x : Str} {m : Nat} {sp : Spec} {G : List (Str × Nat × Spec)} (h : Known P w K mg base k x m sp) (g : ∀ (y : Str) (m : Nat) (sp : Spec), G.lookup y = some (m, sp) → Known P w K mg base k y m sp) :
    ∀ (y : Str) (m' : Nat) (sp' : Spec), ((x, m, sp) :: G).lookup y = some (m', sp') → Known P w K mg base k y m' sp' := fun y m' sp' e => by
  rw [List.lookup_cons] at e
  split at e
  · rename_i hy
    have := eq_of_beq hy
    subst this
    cases e
    exact h
  · exact g y m' sp' e
/-- a def that is never called: its promise cannot be asked -/
def sp_no : Spec := fun _ _ _ => False
theorem known_no {x qual : Str} {st : Stmt} {f : Addr} {fd : FuncData} {ps : List Str} {k m : Nat} (F : Fun K x qual st f fd) (hm : mg x = some (.ref f)) (hb : Binds K fd ps []) : Known P w K mg base k x m sp_no :=
  ⟨f, fd, ps, ⟨fun vs H Q E ⟨_, _, _, _, _, _, _, z, _⟩ => z.elim, fun _ _ _ _ _ _ _ _ _ _ _ _ _ ⟨_, _, _, _, _, _, _, z, _⟩ => z.elim⟩, hm, F.kp, hb⟩
end
end WW


set_option autoImplicit false
set_option linter.all false
namespace WW
/-! ### numbers by their bits -/
/-- the number below 2^n whose bits are p -/
def mk : Nat → (Nat → Bool) → Nat
  | 0, _ => 0
  | n + 1, p => mk n p + if p n = true then 2 ^ n else 0
theorem mk_lt (n : Nat) (p : Nat → Bool) : mk n p < 2 ^ n := by
  induction n with
  | zero => simp [mk]
  | succ n ih =>
    unfold mk
    rw [Nat.pow_succ]
    split <;> omega
theorem mk_bit (n : Nat) (p : Nat → Bool) (i : Nat) : (mk n p).testBit i = (decide (i < n) && p i) := by
  induction n with
  | zero => simp [mk]
  | succ n ih =>
    unfold mk
    by_cases hp : p n = true
    · rw [if_pos hp, Nat.add_comm]
      by_cases h : i < n
      · rw [Nat.testBit_two_pow_add_gt h, ih]
        simp [h, Nat.lt_succ_of_lt h]
      · by_cases h2 : i = n
        · subst h2
          rw [Nat.testBit_two_pow_add_eq, Nat.testBit_lt_two_pow (mk_lt i p)]
          simp [hp]
        · rw [Nat.testBit_lt_two_pow]
          · simp [show ¬ i < n + 1 by omega]
          · have h1 := mk_lt n p
            have h3 : 2 ^ (n + 1) ≤ 2 ^ i := Nat.pow_le_pow_right (by decide) (by omega)
            rw [Nat.pow_succ] at h3
            omega
    · rw [if_neg hp, Nat.add_zero, ih]
      by_cases h2 : i = n
      · subst h2
        simp [hp]
      · congr 1
        rw [decide_eq_decide]
        omega
theorem bit_ext {x y : Nat} (h : ∀ i, x.testBit i = y.testBit i) : x = y := Nat.eq_of_testBit_eq h
theorem mk_self {n L : Nat} (h : L < 2 ^ n) : mk n L.testBit = L := bit_ext fun i => by
  rw [mk_bit]
  by_cases hi : i < n
  · simp [hi]
  · rw [Nat.testBit_lt_two_pow (Nat.lt_of_lt_of_le h (Nat.pow_le_pow_right (by decide) (by omega)))]
    simp
theorem mk_congr {n : Nat} {p q : Nat → Bool} (h : ∀ i, i < n → p i = q i) : mk n p = mk n q := bit_ext fun i => by
  rw [mk_bit, mk_bit]
  by_cases hi : i < n
  · rw [h i hi]
  · simp [hi]
theorem mk_all (n : Nat) : mk n (fun _ => true) = 2 ^ n - 1 := bit_ext fun i => by
  rw [mk_bit, Nat.testBit_two_pow_sub_one]
  simp
/-- sums of numbers without a common bit -/
theorem add_or : ∀ (n a b : Nat), a < 2 ^ n → (∀ i, (a.testBit i && b.testBit i) = false) → a + b = a ||| b := by
  intro n
  induction n with
  | zero =>
    intro a b h _
    have : a = 0 := by omega
    subst this
    simp
  | succ n ih =>
    intro a b h hd
    have h1 : a / 2 + b / 2 = a / 2 ||| b / 2 := ih (a / 2) (b / 2) (by rw [Nat.pow_succ] at h; omega) (fun i => by
      have := hd (i + 1)
      rw [Nat.testBit_succ, Nat.testBit_succ] at this
      exact this)
    have h0 := hd 0
    simp only [Nat.testBit_zero] at h0
    apply bit_ext
    intro i
    rw [Nat.testBit_or]
    cases i with
    | zero =>
      simp only [Nat.testBit_zero]
      have e : (a + b) % 2 = (a % 2 + b % 2) % 2 := Nat.add_mod a b 2
      rcases Nat.mod_two_eq_zero_or_one a with ha | ha <;> rcases Nat.mod_two_eq_zero_or_one b with hb | hb <;> simp [e, ha, hb] at h0 ⊢
    | succ i =>
      rw [Nat.testBit_succ, Nat.testBit_succ, Nat.testBit_succ]
      have e : (a + b) / 2 = a / 2 + b / 2 := by
        rcases Nat.mod_two_eq_zero_or_one a with ha | ha <;> rcases Nat.mod_two_eq_zero_or_one b with hb | hb <;> simp [ha, hb] at h0 <;> omega
      rw [e, h1, Nat.testBit_or]
theorem add_or' {a b : Nat} (h : ∀ i, (a.testBit i && b.testBit i) = false) : a + b = a ||| b := add_or a a b (Nat.lt_two_pow_self) h
theorem bit_add {a b : Nat} (h : ∀ i, (a.testBit i && b.testBit i) = false) (i : Nat) : (a + b).testBit i = (a.testBit i || b.testBit i) := by
  rw [add_or' h, Nat.testBit_or]
/-- a part taken away -/
theorem bit_sub {a b : Nat} (h : ∀ i, b.testBit i = true → a.testBit i = true) : b ≤ a ∧ ∀ i, (a - b).testBit i = (a.testBit i && !b.testBit i) := by
  have hc : b + (a ^^^ b) = a := by
    rw [add_or' (fun i => by
      rw [Nat.testBit_xor]
      cases hb : b.testBit i with
      | false => rfl
      | true => rw [h i hb]; rfl)]
    apply bit_ext
    intro i
    rw [Nat.testBit_or, Nat.testBit_xor]
    cases hb : b.testBit i with
    | false => simp
    | true => rw [h i hb]; rfl
  refine ⟨by omega, fun i => ?_⟩
  have e : a - b = a ^^^ b := by omega
  rw [e, Nat.testBit_xor]
  cases hb : b.testBit i with
  | false => simp
  | true => rw [h i hb]; rfl
theorem bit_two_pow (h i : Nat) : (2 ^ h).testBit i = decide (h = i) := Nat.testBit_two_pow
/-- h with its bit b set or not -/
theorem bit_low {b h : Nat} (hb : h.testBit b = true) : 2 ^ b ≤ h := Nat.ge_two_pow_of_testBit hb
theorem bit_take {b h : Nat} (hb : h.testBit b = true) : ∀ i, (h - 2 ^ b).testBit i = (h.testBit i && !decide (b = i)) := fun i => by
  rw [(bit_sub (a := h) (b := 2 ^ b) fun i e => by
    rw [bit_two_pow] at e
    rw [← of_decide_eq_true e]; exact hb).2, bit_two_pow]
theorem bit_give {b h : Nat} (hb : h.testBit b = false) : ∀ i, (h + 2 ^ b).testBit i = (h.testBit i || decide (b = i)) := fun i => by
  rw [bit_add (fun j => by
    rw [bit_two_pow]
    by_cases e : b = j
    · subst e; rw [hb]; rfl
    · simp [e]), bit_two_pow]
theorem lt_of_bits {n h : Nat} (e : ∀ i, n ≤ i → h.testBit i = false) : h < 2 ^ n := Nat.lt_pow_two_of_testBit h e
theorem bit_lt {n h i : Nat} (hl : h < 2 ^ n) (hi : n ≤ i) : h.testBit i = false := Nat.testBit_lt_two_pow (Nat.lt_of_lt_of_le hl (Nat.pow_le_pow_right (by decide) hi))
/-! ### lots -/
def allN (w : Nat) : Nat := 2 ^ 2 ^ w - 1
/-- the headers of width w whose bit b is 0 -/
def zerosN (b w : Nat) : Nat := mk (2 ^ w) fun h => !h.testBit b
theorem zeros_bit (b w h : Nat) : (zerosN b w).testBit h = (decide (h < 2 ^ w) && !h.testBit b) := mk_bit ..
theorem zeros_mul {b w : Nat} (hb : b < w) : (2 ^ 2 ^ b + 1) * zerosN b w = allN w := by
  have e : (2 ^ 2 ^ b + 1) * zerosN b w = zerosN b w + zerosN b w * 2 ^ 2 ^ b := by
    rw [Nat.add_mul, Nat.one_mul, Nat.add_comm, Nat.mul_comm]
  rw [e]
  have hd : ∀ i, ((zerosN b w).testBit i && (zerosN b w * 2 ^ 2 ^ b).testBit i) = false := fun i => by
    rw [Nat.testBit_mul_two_pow, zeros_bit, zeros_bit]
    by_cases h1 : 2 ^ b ≤ i
    · by_cases h2 : (i - 2 ^ b).testBit b = true
      · simp [h2]
      · have h2 : (i - 2 ^ b).testBit b = false := by simpa using h2
        have h3 := bit_give h2 b
        rw [show i - 2 ^ b + 2 ^ b = i by omega] at h3
        simp [h3]
    · simp [h1]
  apply bit_ext
  intro i
  rw [bit_add hd, Nat.testBit_mul_two_pow, zeros_bit, zeros_bit]
  unfold allN
  rw [Nat.testBit_two_pow_sub_one]
  by_cases hi : i < 2 ^ w
  · cases hbit : i.testBit b with
    | false => simp [hi]
    | true =>
      have h1 := bit_low hbit
      have h2 := bit_take hbit b
      have h3 : i - 2 ^ b < 2 ^ w := by
        have := Nat.two_pow_pos b
        omega
      simp [hi, h1, h2, h3]
  · have : ¬ i < 2 ^ w := hi
    by_cases h1 : 2 ^ b ≤ i
    · by_cases h2 : i - 2 ^ b < 2 ^ w
      · cases h3 : (i - 2 ^ b).testBit b with
        | true => simp [hi]
        | false =>
          exfalso
          apply hi
          have h4 := bit_give h3
          rw [show i - 2 ^ b + 2 ^ b = i by omega] at h4
          apply lt_of_bits
          intro j hj
          rw [h4, bit_lt h2 hj]
          simp
          omega
      · simp [hi, h2]
    · simp [hi, h1]
theorem zeros_div {b w : Nat} (hb : b < w) : allN w / (2 ^ 2 ^ b + 1) = zerosN b w := by
  rw [← zeros_mul hb]
  exact Nat.mul_div_cancel_left _ (Nat.succ_pos _)
theorem all_bit (w h : Nat) : (allN w).testBit h = decide (h < 2 ^ w) := Nat.testBit_two_pow_sub_one ..
/-- the headers that fit the cube, by bits below k -/
def fitB (c v k h : Nat) : Bool := (List.range k).all fun b => !c.testBit b || (h.testBit b == v.testBit b)
theorem fitB_succ (c v k h : Nat) : fitB c v (k + 1) h = (fitB c v k h && (!c.testBit k || (h.testBit k == v.testBit k))) := by
  unfold fitB
  rw [List.range_succ, List.all_append]
  simp
theorem fitB_iff {c v k h : Nat} : fitB c v k h = true ↔ ∀ b, b < k → c.testBit b = true → h.testBit b = v.testBit b := by
  unfold fitB
  rw [List.all_eq_true]
  constructor
  · intro q b hb hc
    have := q b (List.mem_range.mpr hb)
    rw [hc] at this
    simpa using this
  · intro q b hb
    cases hc : c.testBit b with
    | false => rfl
    | true =>
      have := q b (List.mem_range.mp hb) hc
      rw [this]
      simp
def lotK (c v w k : Nat) : Nat := mk (2 ^ w) (fitB c v k)
theorem lotK_bit (c v w k h : Nat) : (lotK c v w k).testBit h = (decide (h < 2 ^ w) && fitB c v k h) := mk_bit ..
theorem lotK_zero (c v w : Nat) : lotK c v w 0 = allN w := bit_ext fun i => by
  rw [lotK_bit, all_bit]
  simp [fitB]
/-- one turn of lot_of -/
theorem lotK_low {c v w k : Nat} (h : Nat) : (lotK c v w k &&& zerosN k w).testBit h = (decide (h < 2 ^ w) && fitB c v k h && !h.testBit k) := by
  rw [Nat.testBit_and, lotK_bit, zeros_bit]
  cases decide (h < 2 ^ w) <;> simp
theorem lotK_turn0 {c v w k : Nat} (hc : c.testBit k = true) (hv : v.testBit k = false) : lotK c v w k &&& zerosN k w = lotK c v w (k + 1) := bit_ext fun h => by
  rw [lotK_low, lotK_bit, fitB_succ, hc, hv]
  cases decide (h < 2 ^ w) <;> simp
theorem lotK_turn1 {c v w k : Nat} (hc : c.testBit k = true) (hv : v.testBit k = true) : (lotK c v w k &&& zerosN k w) ≤ lotK c v w k ∧ lotK c v w k - (lotK c v w k &&& zerosN k w) = lotK c v w (k + 1) := by
  have hs : ∀ i, (lotK c v w k &&& zerosN k w).testBit i = true → (lotK c v w k).testBit i = true := fun i e => by
    rw [Nat.testBit_and] at e
    exact (Bool.and_eq_true_iff.mp e).1
  obtain ⟨h1, h2⟩ := bit_sub hs
  refine ⟨h1, bit_ext fun h => ?_⟩
  rw [h2, lotK_low, lotK_bit, lotK_bit, fitB_succ, hc, hv]
  cases decide (h < 2 ^ w) <;> cases fitB c v k h <;> simp
theorem lotK_turn {c v w k : Nat} (hc : c.testBit k = false) : lotK c v w k = lotK c v w (k + 1) := bit_ext fun h => by
  rw [lotK_bit, lotK_bit, fitB_succ, hc]
  simp
/-- the lot of a cube -/
def lotN (c v w : Nat) : Nat := lotK c v w w
theorem fitB_and {c v w h : Nat} (hc : c < 2 ^ w) (hv : v &&& c = v) : fitB c v w h = decide (h &&& c = v) := by
  rw [Bool.eq_iff_iff, fitB_iff, decide_eq_true_iff]
  constructor
  · intro q
    apply bit_ext
    intro i
    rw [Nat.testBit_and]
    have e : v.testBit i = (v.testBit i && c.testBit i) := by rw [← Nat.testBit_and, hv]
    cases hi : c.testBit i with
    | false => rw [hi, Bool.and_false] at e; rw [e]; simp
    | true =>
      have : i < w := by
        apply Nat.lt_of_not_le
        intro z
        rw [bit_lt hc z] at hi
        cases hi
      simp [q i this hi]
  · intro q b _ hb
    rw [← q, Nat.testBit_and, hb]
    simp
theorem lot_bit {c v w : Nat} (hc : c < 2 ^ w) (hv : v &&& c = v) (h : Nat) : (lotN c v w).testBit h = (decide (h < 2 ^ w) && decide (h &&& c = v)) := by
  unfold lotN
  rw [lotK_bit, fitB_and hc hv]
theorem lot_lt (c v w : Nat) : lotN c v w < 2 ^ 2 ^ w := mk_lt ..
/-! ### the headers of a lot, ascending -/
def hdrs (n L : Nat) : List Nat := (List.range n).filter L.testBit
theorem hdrs_succ (n L : Nat) : hdrs (n + 1) L = hdrs n L ++ if L.testBit n = true then [n] else [] := by
  unfold hdrs
  rw [List.range_succ, List.filter_append]
  congr 1
  by_cases h : L.testBit n = true
  · simp [h]
  · simp [h]
theorem hdrs_mem {n L h : Nat} : h ∈ hdrs n L ↔ h < n ∧ L.testBit h = true := by
  unfold hdrs
  rw [List.mem_filter, List.mem_range]
theorem hdrs_asc (n L : Nat) : (hdrs n L).Pairwise (· < ·) := by
  unfold hdrs
  exact List.Pairwise.filter _ (List.pairwise_lt_range)
/-- ascending lists with the same members are one -/
theorem asc_ext : ∀ {a b : List Nat}, a.Pairwise (· < ·) → b.Pairwise (· < ·) → (∀ x, x ∈ a ↔ x ∈ b) → a = b
  | [], [], _, _, _ => rfl
  | [], y :: b, _, _, h => by have := (h y).mpr List.mem_cons_self; cases this
  | x :: a, [], _, _, h => by have := (h x).mp List.mem_cons_self; cases this
  | x :: a, y :: b, ha, hb, h => by
    rw [List.pairwise_cons] at ha hb
    have e : x = y := by
      have h1 := (h x).mp List.mem_cons_self
      have h2 := (h y).mpr List.mem_cons_self
      rcases List.mem_cons.mp h1 with q | q
      · exact q
      · rcases List.mem_cons.mp h2 with r | r
        · exact r.symm
        · have := hb.1 x q
          have := ha.1 y r
          omega
    subst e
    congr 1
    apply asc_ext ha.2 hb.2
    intro z
    constructor
    · intro hz
      rcases List.mem_cons.mp ((h z).mp (List.mem_cons_of_mem _ hz)) with q | q
      · subst q
        exact absurd (ha.1 z hz) (Nat.lt_irrefl _)
      · exact q
    · intro hz
      rcases List.mem_cons.mp ((h z).mpr (List.mem_cons_of_mem _ hz)) with q | q
      · subst q
        exact absurd (hb.1 z hz) (Nat.lt_irrefl _)
      · exact q
/-- the lot of a list of headers -/
def ofL : List Nat → Nat
  | [] => 0
  | h :: r => 2 ^ h ||| ofL r
theorem ofL_bit : ∀ (hs : List Nat) (i : Nat), (ofL hs).testBit i = decide (i ∈ hs)
  | [], i => by simp [ofL]
  | h :: r, i => by
    unfold ofL
    rw [Nat.testBit_or, ofL_bit r, bit_two_pow]
    by_cases e : h = i
    · simp [e]
    · have e' : ¬ i = h := fun z => e z.symm
      simp [e, e']
theorem ofL_lt {hs : List Nat} {n : Nat} (h : ∀ x ∈ hs, x < n) : ofL hs < 2 ^ n := lt_of_bits fun i hi => by
  rw [ofL_bit]
  apply decide_eq_false
  intro z
  have := h i z
  omega
theorem hdrs_ofL {hs : List Nat} {n : Nat} (ha : hs.Pairwise (· < ·)) (h : ∀ x ∈ hs, x < n) : hdrs n (ofL hs) = hs := asc_ext (hdrs_asc _ _) ha fun x => by
  rw [hdrs_mem, ofL_bit, decide_eq_true_iff]
  exact ⟨fun q => q.2, fun q => ⟨h x q, q⟩⟩
theorem hdrs_zero (n : Nat) : hdrs n 0 = [] := by
  unfold hdrs
  apply List.filter_eq_nil_iff.mpr
  intro a _
  simp
theorem hdrs_len_le (n L : Nat) : (hdrs n L).length ≤ n := by
  unfold hdrs
  have := List.length_filter_le L.testBit (List.range n)
  rw [List.length_range] at this
  exact this
/-- the lowest bit -/
theorem and_pred : ∀ (n r : Nat), r < 2 ^ n → 0 < r → ∃ k, k < n ∧ r.testBit k = true ∧ (∀ j, j < k → r.testBit j = false) ∧ r &&& (r - 1) = r - 2 ^ k := by
  intro n
  induction n with
  | zero => intro r h h0; simp at h; omega
  | succ n ih =>
    intro r h h0
    rcases Nat.mod_two_eq_zero_or_one r with e | e
    · have e2 : r = 2 * (r / 2) := by omega
      obtain ⟨k, k1, k2, k3, k4⟩ := ih (r / 2) (by rw [Nat.pow_succ] at h; omega) (by omega)
      refine ⟨k + 1, by omega, by rw [Nat.testBit_succ]; exact k2, ?_, ?_⟩
      · intro j hj
        cases j with
        | zero => simp [Nat.testBit_zero, e]
        | succ j => rw [Nat.testBit_succ]; exact k3 j (by omega)
      · have hk : 2 ^ k ≤ r / 2 := bit_low k2
        have hp : 2 ^ (k + 1) = 2 * 2 ^ k := by rw [Nat.pow_succ, Nat.mul_comm]
        have h1 : (r &&& (r - 1)) / 2 = (r / 2 &&& (r / 2 - 1)) := by
          rw [show r / 2 - 1 = (r - 1) / 2 by omega]
          apply bit_ext
          intro i
          rw [Nat.testBit_and, ← Nat.testBit_succ, ← Nat.testBit_succ, ← Nat.testBit_succ, Nat.testBit_and]
        have h2 : (r &&& (r - 1)) % 2 = 0 := by
          have : (r &&& (r - 1)).testBit 0 = false := by
            rw [Nat.testBit_and, Nat.testBit_zero, e]
            rfl
          rw [Nat.testBit_zero] at this
          generalize r &&& (r - 1) = X at this ⊢
          simp at this
          omega
        rw [k4] at h1
        generalize r &&& (r - 1) = X at h1 h2 ⊢
        omega
    · refine ⟨0, by omega, by simp [Nat.testBit_zero, e], fun j hj => absurd hj (by omega), ?_⟩
      have h1 : (r &&& (r - 1)) / 2 = r / 2 := by
        apply bit_ext
        intro i
        rw [← Nat.testBit_succ, Nat.testBit_and, Nat.testBit_succ, Nat.testBit_succ, show (r - 1) / 2 = r / 2 by omega]
        simp
      have h2 : (r &&& (r - 1)) % 2 = 0 := by
        have : (r &&& (r - 1)).testBit 0 = false := by
          rw [Nat.testBit_and, Nat.testBit_zero, Nat.testBit_zero]
          simp
          omega
        rw [Nat.testBit_zero] at this
        generalize r &&& (r - 1) = X at this ⊢
        simp at this
        omega
      rw [Nat.pow_zero]
      generalize r &&& (r - 1) = X at h1 h2 ⊢
      omega
end WW


set_option Elab.async false
set_option linter.all false
set_option maxRecDepth 100000
set_option maxHeartbeats 4000000
set_option autoImplicit false
namespace WW
open PySem PySem.Spec PyProof.Rows L2

/-! ### the clean readings, applied -/
section
variable {ρ : Rho} {e : Env} {S : Sto} {Q : Q1} {k : KK} {i : Nat} {d : D} {o p : OpD} {a b c : W} {t u : WT} {x y z : WS} {wa wr : WA} {QT : Bool → Sto → Prop} {QA : List D → Sto → Prop} {QO : Option Int → Sto → Prop}
theorem en_2 : (KK.en k ρ).2 = ρ := rfl
theorem ap_var : wVar i e S Q = gv (look e.2 i) (fun d => Q d S) := rfl
theorem ap_cst : wCst d e S Q = Q d S := rfl
theorem ap_op : wOp o a b e S Q = a e S fun x S1 => b e S1 fun y S2 => o x y S2 Q := rfl
theorem ap_neg : wNeg a e S Q = a e S fun x S1 => isInt x fun i => Q (.int (-i)) S1 := rfl
theorem ap_notV : wNotV a e S Q = a e S fun x S1 => truD x S1 fun k => Q (.bl (!k)) S1 := rfl
theorem ap_andV : wAndV a b e S Q = a e S fun x S1 => truD x S1 fun k => if k = true then b e S1 Q else Q x S1 := rfl
theorem ap_orV : wOrV a b e S Q = a e S fun x S1 => truD x S1 fun k => if k = true then Q x S1 else b e S1 Q := rfl
theorem ap_chain : wChain o p a b c e S Q = a e S fun x S1 => b e S1 fun y S2 => o x y S2 fun z S3 => isBl z fun k => if k = true then c e S3 fun u S4 => p y u S4 Q else Q (.bl false) S3 := rfl
theorem ap_if : wIf t a b e S Q = t e S fun k S1 => if k = true then a e S1 Q else b e S1 Q := rfl
theorem ap_nil : wNil e S QA = QA [] S := rfl
theorem ap_cons : wCons a wr e S QA = a e S fun x S1 => wr e S1 fun xs S2 => QA (x :: xs) S2 := rfl
theorem ap_tup : wTup wa e S Q = wa e S fun xs S1 => xs.length ≤ sizeLine ∧ Q (.tup xs) S1 := rfl
theorem ap_lst : wLst wa e S Q = wa e S fun xs S1 => xs.length ≤ sizeLine ∧ Q (.ref S1.length) (S1 ++ [.lst xs]) := rfl
theorem ap_noP : wNoP e S QO = QO none S := rfl
theorem ap_part : wPart a e S QO = a e S fun x S1 => isInt x fun i => QO (some i) S1 := rfl
theorem ap_slc {lo hi : WO} : wSlc a lo hi e S Q = a e S fun x S1 => lo e S1 fun l S2 => hi e S2 fun h S3 => slcD x l h S3 Q := rfl
theorem ap_call {n : Nat} {sp : Spec} : wCall n sp wa e S Q = wa e S fun ds S1 => callS n sp ds S1 Q := rfl
theorem ap_callX {n : Nat} {sp : SpecX} : wCallX n sp wa e S Q = wa e S fun ds S1 => callX n sp ds S1 Q e.1 := rfl
theorem ap_blt {f : CalD} : wBlt f wa e S Q = wa e S fun ds S1 => f ds S1 Q := rfl
theorem ap_met {ty : D → Sto → Prop} {m : MetD} : wMet ty m a wa e S Q = a e S fun x S1 => ty x S1 ∧ wa e S1 fun ds S2 => m x ds S2 Q := rfl
theorem ap_bits : wBits a e S Q = a e S fun x S1 => isInt x fun i => Q (.int (Builtin.Int.intBits i : Nat)) S1 := rfl
theorem ap_tst : wTst a e S QT = a e S fun d S1 => truD d S1 fun b => QT b S1 := rfl
theorem ap_tsB : wTsB a e S QT = a e S fun d S1 => isBl d fun b => QT b S1 := rfl
theorem ap_notB : wNotB t e S QT = t e S fun b S1 => QT (!b) S1 := rfl
theorem ap_andB : wAndB t u e S QT = t e S fun b S1 => if b = true then u e S1 QT else QT false S1 := rfl
theorem ap_orB : wOrB t u e S QT = t e S fun b S1 => if b = true then QT true S1 else u e S1 QT := rfl
theorem ap_yes : wYes e S QT = QT true S := rfl
theorem ap_sset : wSSet a e S Q = a e S fun d S1 => ssetD d S1 Q := rfl
theorem ap_isi {T : Ty} : wIsi T a e S Q = a e S fun d S1 => tyD d S1 fun t => Q (.bl (isiB t T)) S1 := rfl
theorem ap_or : wOr a b e S Q = (a e S Q ∨ b e S Q) := rfl
theorem ap_lstR : wLstR wa e S Q = wa e S fun ds S1 => rg2 ds fun i j => RgOk i j ∧ Q (.ref S1.length) (S1 ++ [.lst (rgD i j)]) := rfl
theorem ap_tupR : wTupR wa e S Q = wa e S fun ds S1 => rg2 ds fun i j => RgOk i j ∧ Q (.tup (rgD i j)) S1 := rfl
theorem ap_dct : wDct e S Q = (Q (.ref S.length) (S ++ [.dK false []]) ∨ Q (.ref S.length) (S ++ [.dT false []])) := rfl
theorem ap_fld {cs : List Str} {f : Str} : wFld cs f a e S Q = a e S fun d S1 => fldD cs f d S1 Q := rfl
theorem ap_mth {c m : Str} {n : Nat} {sp : Spec} : wMth c m n sp a wa e S Q = a e S fun x S1 => mthD c m x S1 ∧ wa e S1 fun ds S2 => callS (n + 1) sp (x :: ds) S2 Q := rfl
theorem ap_mak {c : Str} {n : Nat} {sp : Spec} : wMak c n sp wa e S Q = wa e S fun ds S1 => callS (n + 1) sp (.ref S1.length :: ds) (S1 ++ [.ins c []]) fun d S2 => d = .non ∧ Q (.ref S1.length) S2 := rfl
theorem ap_lc {wi : WI} {pt : Pat} {vs : List Nat} : wLc wi pt t a vs e S Q = wi e S fun s S1 => lcGo s.stab pt t a (wipeR e.2 vs) Q s.items [] S1 := rfl
theorem ap_asg : wAsg i a k ρ S = a (k.en ρ) S fun d S1 => k.nx (putR ρ i (some d)) S1 := rfl
theorem ap_asgP {pt : Pat} : wAsgP pt a k ρ S = a (k.en ρ) S fun d S1 => gv (bindP pt d ρ) fun ρ' => k.nx ρ' S1 := rfl
theorem ap_set : wSet a b c k ρ S = c (k.en ρ) S fun y S1 => a (k.en ρ) S1 fun x S2 => b (k.en ρ) S2 fun z S3 => setD x z y S3 fun S4 => k.nx ρ S4 := rfl
theorem ap_fset {cs : List Str} {f : Str} : wFSet cs f a b k ρ S = b (k.en ρ) S fun y S1 => a (k.en ρ) S1 fun x S2 => fsetD cs f y x S2 fun S3 => k.nx ρ S3 := rfl
theorem ap_drop : wDrop a k ρ S = a (k.en ρ) S fun _ S1 => k.nx ρ S1 := rfl
theorem ap_ret : wRet a k ρ S = a (k.en ρ) S k.rt := rfl
theorem ap_retN : wRetN k ρ S = k.rt .non S := rfl
theorem ap_brk : wBrk k ρ S = k.bk ρ S := rfl
theorem ap_cnt : wCnt k ρ S = k.ct ρ S := rfl
theorem ap_pas : wPas k ρ S = k.nx ρ S := rfl
theorem ap_sq : wSq x y k ρ S = x { k with nx := y k } ρ S := rfl
theorem ap_ifS : wIfS t x y k ρ S = t (k.en ρ) S fun c S1 => if c = true then x k ρ S1 else y k ρ S1 := rfl
theorem ap_for {wi : WI} {pt : Pat} : wFor wi pt x k ρ S = wi (k.en ρ) S fun s S1 => forGo s.stab pt x k s.items ρ S1 := rfl
theorem ap_forN {pt : Pat} : wForN i pt x k ρ S = gv (look ρ i) fun d => (srcD d S fun s => forGo s.stab pt x k s.items ρ S) ∨ forD pt x k ρ d S := rfl
theorem ap_seqI {QI : Src → Sto → Prop} : wSeqI a e S QI = a e S fun d S1 => srcD d S1 fun s => QI s S1 := rfl
theorem ap_rng {QI : Src → Sto → Prop} : wRng wa e S QI = wa e S fun ds S1 => rngD ds fun s => QI s S1 := rfl
theorem ap_enum {QI : Src → Sto → Prop} : wEnum wa e S QI = wa e S fun ds S1 => enum1 ds S1 fun s => QI s S1 := rfl
end
section
variable {Q : Int → Prop} {QB : Bool → Prop} {i : Int} {b : Bool} {A B : Prop} {n : Nat} {d : D} {ds : List D} {ρ : Rho} {is : List Nat} {S : Sto}
theorem rd_int : isInt (.int i) Q = Q i := rfl
theorem rd_bl : isBl (.bl b) QB = QB b := rfl
theorem rd_T : (if true = true then A else B) = A := rfl
theorem rd_F : (if false = true then A else B) = B := rfl
theorem rd_nm : bindP (.nm n) d ρ = some (putR ρ n (some d)) := rfl
theorem rd_tp : bindP (.tp is) (.tup ds) ρ = bindL is ds ρ := rfl
theorem rd_nil : bindL [] [] ρ = some ρ := rfl
theorem rd_cons : bindL (n :: is) (d :: ds) ρ = bindL is ds (putR ρ n (some d)) := rfl
theorem rd_gv {α : Type} {a : α} {Q : α → Prop} : gv (some a) Q = Q a := rfl
theorem rd_trB : truD (.bl b) S QB = QB b := rfl
theorem rd_srcT {QS : Src → Prop} : srcD (.tup ds) S QS = QS ⟨ds, fun _ => True⟩ := rfl
theorem rd_rng1 {QS : Src → Prop} {j : Int} : rngD [.int j] QS = ((-(2 ^ 62) ≤ j ∧ j < 2 ^ 62) ∧ QS ⟨(List.range j.toNat).map fun k => .int ((0 : Int) + (k : Nat)), fun _ => True⟩) := rfl
theorem rd_rng2 {QS : Src → Prop} {i j : Int} : rngD [.int i, .int j] QS = ((-(2 ^ 62) ≤ i ∧ i < 2 ^ 62 ∧ -(2 ^ 62) ≤ j ∧ j < 2 ^ 62) ∧ QS ⟨(List.range (j - i).toNat).map fun k => .int (i + (k : Nat)), fun _ => True⟩) := rfl
theorem rd_notT : (!true) = false := rfl
theorem rd_notF : (!false) = true := rfl
theorem ty_non {QY : Ty → Prop} : tyD .non S QY = QY .non := rfl
theorem ty_bl {QY : Ty → Prop} : tyD (.bl b) S QY = QY .bl := rfl
theorem ty_int {QY : Ty → Prop} : tyD (.int i) S QY = QY .int := rfl
theorem ty_str {QY : Ty → Prop} {z : Str} : tyD (.str z) S QY = QY .str := rfl
theorem ty_tup {QY : Ty → Prop} : tyD (.tup ds) S QY = QY .tup := rfl
theorem rd_rg1 {QR : Int → Int → Prop} {n : Int} : rg2 [.int n] QR = QR 0 n := rfl
theorem rd_rg2 {QR : Int → Int → Prop} {a b : Int} : rg2 [.int a, .int b] QR = QR a b := rfl
end
theorem callI {n : Nat} {sp : Spec} {ds : List D} {S : Sto} {Q : Q1} (hl : ds.length = n) (h : sp ds S Q) : callS n sp ds S Q := ⟨hl, Q, h, fun _ _ h => h⟩

/-! ### loops -/
theorem whl {t : WT} {b : WS} {k : KK} {ρ : Rho} {S : Sto} (I : Nat → Rho → Sto → Prop) {n : Nat} (h0 : I n ρ S)
    (hs : ∀ n ρ S (N : Rho → Sto → Prop), I n ρ S → (∀ n' ρ' S', n' < n → I n' ρ' S' → N ρ' S') → t (k.en ρ) S fun c S1 => if c = true then b { k with nx := N, ct := N, bk := k.nx } ρ S1 else k.nx ρ S1) : wWhl t b k ρ S := by
  have key : ∀ m n ρ S, n < m → I n ρ S → wIt t b k m ρ S := by
    intro m
    induction m with
    | zero => intro n ρ S h; omega
    | succ m ih =>
      intro n ρ S h hI
      exact hs n ρ S (wIt t b k m) hI fun n' ρ' S' h' hI' => ih n' ρ' S' (by omega) hI'
  exact ⟨n + 1, key (n + 1) n ρ S (by omega) h0⟩
theorem forI {st : Sto → Prop} {p : Pat} {b : WS} {k : KK} {xs : List D} {ρ : Rho} {S : Sto} (I : Nat → Rho → Sto → Prop) (h0 : I 0 ρ S)
    (hs : ∀ i d ρ S (N : Rho → Sto → Prop), xs[i]? = some d → I i ρ S → (∀ ρ' S', I (i + 1) ρ' S' → N ρ' S') → st S ∧ gv (bindP p d ρ) fun ρ' => b { k with nx := N, ct := N, bk := k.nx } ρ' S)
    (he : ∀ ρ S, I xs.length ρ S → st S ∧ k.nx ρ S) : forGo st p b k xs ρ S := by
  have key : ∀ (ys : List D) i ρ S, xs.drop i = ys → i ≤ xs.length → I i ρ S → forGo st p b k ys ρ S := by
    intro ys
    induction ys with
    | nil =>
      intro i ρ S h hi hI
      have : xs.length ≤ i := List.drop_eq_nil_iff.mp h
      have e : i = xs.length := by omega
      subst e
      exact he ρ S hI
    | cons y ys ih =>
      intro i ρ S h hi hI
      have hl : i < xs.length := by
        apply Nat.lt_of_not_le
        intro z
        rw [List.drop_of_length_le z] at h
        cases h
      rw [List.drop_eq_getElem_cons hl] at h
      injection h with h1 h2
      exact hs i y ρ S _ (by rw [List.getElem?_eq_getElem hl, h1]) hI fun ρ' S' hI' => ih (i + 1) ρ' S' h2 hl hI'
  exact key xs 0 ρ S rfl (Nat.zero_le _) h0
theorem rng_get {n i : Nat} {lo : Int} {d : D} (h : ((List.range n).map fun k => D.int (lo + (k : Nat)))[i]? = some d) : i < n ∧ d = .int (lo + (i : Nat)) := by
  rw [List.getElem?_map] at h
  cases q : (List.range n)[i]? with
  | none => rw [q] at h; cases h
  | some k =>
    obtain ⟨h1, h2⟩ := List.getElem?_eq_some_iff.mp q
    rw [List.getElem_range] at h2
    subst h2
    rw [q] at h
    cases h
    exact ⟨by simpa using h1, rfl⟩
theorem forR {p : Pat} {b : WS} {k : KK} {n : Nat} {lo : Int} {ρ : Rho} {S : Sto} (I : Nat → Rho → Sto → Prop) (h0 : I 0 ρ S)
    (hs : ∀ i ρ S (N : Rho → Sto → Prop), i < n → I i ρ S → (∀ ρ' S', I (i + 1) ρ' S' → N ρ' S') → gv (bindP p (.int (lo + (i : Nat))) ρ) fun ρ' => b { k with nx := N, ct := N, bk := k.nx } ρ' S)
    (he : ∀ ρ S, I n ρ S → k.nx ρ S) : forGo (fun _ => True) p b k ((List.range n).map fun k => .int (lo + (k : Nat))) ρ S :=
  forI I h0 (fun i d ρ S N hd hI hN => by
    obtain ⟨h1, rfl⟩ := rng_get hd
    exact ⟨trivial, hs i ρ S N h1 hI hN⟩) fun ρ S hI => ⟨trivial, he ρ S (by simpa using hI)⟩
theorem lcI {st : Sto → Prop} {p : Pat} {t : WT} {e : W} {ρ0 : Rho} {Q : Q1} {xs : List D} {S : Sto} (I : Nat → List D → Sto → Prop) (h0 : I 0 [] S)
    (hs : ∀ i d acc S (N : List D → Sto → Prop), xs[i]? = some d → I i acc S → (∀ acc' S', I (i + 1) acc' S' → N acc' S') → st S ∧ gv (bindP p d ρ0) fun ρ1 => t (noX, ρ1) S fun b S1 => if b = true then e (noX, ρ1) S1 fun y S2 => acc.length < sizeLine ∧ N (acc ++ [y]) S2 else N acc S1)
    (he : ∀ acc S, I xs.length acc S → st S ∧ Q (.ref S.length) (S ++ [.lst acc])) : lcGo st p t e ρ0 Q xs [] S := by
  have key : ∀ (ys : List D) i acc S, xs.drop i = ys → i ≤ xs.length → I i acc S → lcGo st p t e ρ0 Q ys acc S := by
    intro ys
    induction ys with
    | nil =>
      intro i acc S h hi hI
      have : xs.length ≤ i := List.drop_eq_nil_iff.mp h
      have e : i = xs.length := by omega
      subst e
      exact he acc S hI
    | cons y ys ih =>
      intro i acc S h hi hI
      have hl : i < xs.length := by
        apply Nat.lt_of_not_le
        intro z
        rw [List.drop_of_length_le z] at h
        cases h
      rw [List.drop_eq_getElem_cons hl] at h
      injection h with h1 h2
      exact hs i y acc S (lcGo st p t e ρ0 Q ys) (by rw [List.getElem?_eq_getElem hl, h1]) hI fun acc' S' hI' => ih (i + 1) acc' S' h2 hl hI'
  exact key xs 0 [] S rfl (Nat.zero_le _) h0
theorem lcR {p : Pat} {t : WT} {e : W} {ρ0 : Rho} {Q : Q1} {n : Nat} {lo : Int} {S : Sto} (I : Nat → List D → Sto → Prop) (h0 : I 0 [] S)
    (hs : ∀ i acc S (N : List D → Sto → Prop), i < n → I i acc S → (∀ acc' S', I (i + 1) acc' S' → N acc' S') → gv (bindP p (.int (lo + (i : Nat))) ρ0) fun ρ1 => t (noX, ρ1) S fun b S1 => if b = true then e (noX, ρ1) S1 fun y S2 => acc.length < sizeLine ∧ N (acc ++ [y]) S2 else N acc S1)
    (he : ∀ acc S, I n acc S → Q (.ref S.length) (S ++ [.lst acc])) : lcGo (fun _ => True) p t e ρ0 Q ((List.range n).map fun k => .int (lo + (k : Nat))) [] S :=
  lcI I h0 (fun i d acc S N hd hI hN => by
    obtain ⟨h1, rfl⟩ := rng_get hd
    exact ⟨trivial, hs i acc S N h1 hI hN⟩) fun acc S hI => ⟨trivial, he acc S (by simpa using hI)⟩

/-! ### ints that are naturals -/
abbrev nt (n : Nat) : D := .int (n : Int)
section
variable {a b : Nat} {S : Sto} {Q : Q1}
theorem n_add (q : Q (nt (a + b)) S) : opAdd (nt a) (nt b) S Q := by
  show Q (.int ((a : Int) + (b : Int))) S
  rw [← Int.natCast_add]
  exact q
theorem n_sub (h : b ≤ a) (q : Q (nt (a - b)) S) : opSub (nt a) (nt b) S Q := by
  show Q (.int ((a : Int) - (b : Int))) S
  rw [← Int.ofNat_sub h]
  exact q
theorem n_and (q : Q (nt (a &&& b)) S) : opAnd (nt a) (nt b) S Q := by
  show Q (.int (Builtin.bitAnd (a : Int) (b : Int))) S
  rw [PySem.W.os_band]
  exact q
theorem n_or (q : Q (nt (a ||| b)) S) : opOr (nt a) (nt b) S Q := by
  show Q (.int (Builtin.bitOr (a : Int) (b : Int))) S
  have e : Builtin.bitOr (a : Int) (b : Int) = ((a ||| b : Nat) : Int) := by
    rw [bitOr_and, PySem.W.os_band]
    have h1 : ((a &&& b) + (a ^^^ b)) = a ||| b := by
      rw [add_or' (fun i => by rw [Nat.testBit_and, Nat.testBit_xor]; cases a.testBit i <;> cases b.testBit i <;> rfl)]
      apply bit_ext
      intro i
      rw [Nat.testBit_or, Nat.testBit_or, Nat.testBit_and, Nat.testBit_xor]
      cases a.testBit i <;> cases b.testBit i <;> rfl
    have h2 : (a &&& b) + (a ||| b) = a + b := by
      have h3 := (bit_sub (a := a) (b := a &&& b) fun i e => by rw [Nat.testBit_and] at e; exact (Bool.and_eq_true_iff.mp e).1)
      have h4 : (a - (a &&& b)) + b = a ||| b := by
        rw [add_or' (fun i => by rw [h3.2, Nat.testBit_and]; cases a.testBit i <;> cases b.testBit i <;> rfl)]
        apply bit_ext
        intro i
        rw [Nat.testBit_or, Nat.testBit_or, h3.2, Nat.testBit_and]
        cases a.testBit i <;> cases b.testBit i <;> rfl
      have := h3.1
      omega
    omega
  rw [e]
  exact q
theorem n_xor (q : Q (nt (a ^^^ b)) S) : opXor (nt a) (nt b) S Q := by
  have hor : Builtin.bitOr (a : Int) (b : Int) = ((a ||| b : Nat) : Int) := by
    have := n_or (a := a) (b := b) (S := []) (Q := fun d _ => d = nt (a ||| b)) rfl
    injection this
  show Q (.int (Builtin.bitOr (a : Int) (b : Int) - Builtin.bitAnd (a : Int) (b : Int))) S
  rw [hor, PySem.W.os_band]
  have h3 := (bit_sub (a := a ||| b) (b := a &&& b) fun i e => by rw [Nat.testBit_and] at e; rw [Nat.testBit_or, (Bool.and_eq_true_iff.mp e).1]; rfl)
  have e : (a ||| b) - (a &&& b) = a ^^^ b := by
    apply bit_ext
    intro i
    rw [h3.2, Nat.testBit_or, Nat.testBit_and, Nat.testBit_xor]
    cases a.testBit i <;> cases b.testBit i <;> rfl
  rw [← Int.ofNat_sub h3.1, e]
  exact q
theorem bits_le {n k : Nat} (h : n < 2 ^ k) : Builtin.Int.intBits (n : Int) ≤ k := by
  unfold Builtin.Int.intBits
  split
  · exact Nat.zero_le _
  · rename_i h0
    have h1 : n ≠ 0 := by
      intro z
      subst z
      exact h0 rfl
    have := (Nat.log2_lt h1).mpr h
    show (n : Int).natAbs.log2 + 1 ≤ k
    rw [Int.natAbs_natCast]
    omega
theorem bits_eq {k : Nat} : Builtin.Int.intBits ((2 ^ k : Nat) : Int) = k + 1 := by
  unfold Builtin.Int.intBits
  have h1 : (2 ^ k : Nat) ≠ 0 := Nat.ne_of_gt (Nat.two_pow_pos k)
  rw [if_neg (by
    intro z
    have := eq_of_beq z
    omega), Int.natAbs_natCast, Nat.log2_two_pow]
theorem n_shl (k : Nat) (h : a < 2 ^ k) (hb : k + b ≤ 134217728) (q : Q (nt (a * 2 ^ b)) S) : opShl (nt a) (nt b) S Q := by
  refine ⟨⟨Int.natCast_nonneg b, ?_⟩, ?_⟩
  · have := bits_le h
    show (Builtin.Int.intBits (a : Int) : Int) + (b : Int) ≤ 2 ^ 27
    have e : (2 : Int) ^ 27 = 134217728 := by decide
    rw [e]
    omega
  · show Q (.int ((a : Int) * 2 ^ (b : Int).toNat)) S
    rw [Int.toNat_natCast]
    have e : (a : Int) * 2 ^ b = ((a * 2 ^ b : Nat) : Int) := by
      rw [Int.natCast_mul, Int.natCast_pow]
      rfl
    rw [e]
    exact q
theorem n_shl1 (hb : b ≤ 134217727) (q : Q (nt (2 ^ b)) S) : opShl (.int 1) (nt b) S Q :=
  n_shl (a := 1) 1 (by decide) (by omega) (by rw [Nat.one_mul]; exact q)
theorem n_shr (q : Q (nt (a >>> b)) S) : opShr (nt a) (nt b) S Q := by
  refine ⟨Int.natCast_nonneg b, ?_⟩
  show Q (.int ((a : Int) / 2 ^ (b : Int).toNat)) S
  rw [Int.toNat_natCast]
  have e : (a : Int) / 2 ^ b = ((a >>> b : Nat) : Int) := by
    rw [Nat.shiftRight_eq_div_pow, Int.natCast_ediv, Int.natCast_pow]
    rfl
  rw [e]
  exact q
theorem n_div (h0 : 0 < b) (h : b < 2 ^ 8999) (q : Q (nt (a / b)) S) : opDiv (nt a) (nt b) S Q := by
  refine ⟨⟨by omega, ?_⟩, ?_⟩
  · rw [Int.natAbs_natCast, Nat.log2_lt (by omega)]
    exact Nat.lt_of_lt_of_le h (Nat.pow_le_pow_right (by decide) (by decide))
  · show Q (.int ((a : Int) / (b : Int))) S
    rw [← Int.natCast_ediv]
    exact q
theorem n_mod (h0 : 0 < b) (q : Q (nt (a % b)) S) : opMod (nt a) (nt b) S Q := by
  refine ⟨by omega, ?_⟩
  show Q (.int ((a : Int) % (b : Int))) S
  rw [← Int.natCast_emod]
  exact q
theorem n_mulS (h : b < 2 ^ 64) (q : Q (nt (a * b)) S) : opMul (nt a) (nt b) S Q := by
  refine ⟨.inl (.inr ⟨by omega, by omega⟩), ?_⟩
  show Q (.int ((a : Int) * (b : Int))) S
  rw [← Int.natCast_mul]
  exact q
/-- header >> bit & 1, as a test -/
theorem n_bit (q : Q (nt (a.testBit b).toNat) S) : opShr (nt a) (nt b) S (fun x S1 => opAnd x (.int 1) S1 Q) := by
  refine n_shr (n_and (a := a >>> b) (b := 1) ?_)
  have e : (a >>> b) &&& 1 = (a.testBit b).toNat := by
    rw [Nat.and_one_is_mod, Nat.testBit_eq_decide_div_mod_eq, Nat.shiftRight_eq_div_pow]
    rcases Nat.mod_two_eq_zero_or_one (a / 2 ^ b) with h | h <;> simp [h]
  rw [e]
  exact q
theorem n_tru {QB : Bool → Prop} (q : QB (!decide (a = 0))) : truD (nt a) S QB := by
  show QB ((a : Int) != 0)
  have e : ((a : Int) != 0) = !decide (a = 0) := by
    by_cases h : a = 0
    · subst h; rfl
    · have : ((a : Int) == 0) = false := by
        apply beq_eq_false_iff_ne.mpr
        omega
      simp [bne, this, h]
  rw [e]
  exact q
theorem n_truB {c : Bool} {QB : Bool → Prop} (q : QB c) : truD (nt c.toNat) S QB := n_tru (by cases c <;> exact q)
theorem n_eq {S : Sto} {Q : Q1} (q : Q (.bl (decide (a = b))) S) : cmpD .Eq (nt a) (nt b) S Q := by
  show Q (.bl (decide ((a : Int) = (b : Int)))) S
  have e : decide ((a : Int) = (b : Int)) = decide (a = b) := by rw [decide_eq_decide]; omega
  rw [e]; exact q
theorem n_ne {S : Sto} {Q : Q1} (q : Q (.bl (!decide (a = b))) S) : cmpD .NotEq (nt a) (nt b) S Q := by
  show Q (.bl (!decide ((a : Int) = (b : Int)))) S
  have e : decide ((a : Int) = (b : Int)) = decide (a = b) := by rw [decide_eq_decide]; omega
  rw [e]; exact q
theorem n_lt {S : Sto} {Q : Q1} (q : Q (.bl (decide (a < b))) S) : cmpD .Lt (nt a) (nt b) S Q := by
  show Q (.bl (decide ((a : Int) < (b : Int)))) S
  have e : decide ((a : Int) < (b : Int)) = decide (a < b) := by rw [decide_eq_decide]; omega
  rw [e]; exact q
theorem n_gt {S : Sto} {Q : Q1} (q : Q (.bl (decide (b < a))) S) : cmpD .Gt (nt a) (nt b) S Q := by
  show Q (.bl (decide ((b : Int) < (a : Int)))) S
  have e : decide ((b : Int) < (a : Int)) = decide (b < a) := by rw [decide_eq_decide]; omega
  rw [e]; exact q
end

/-! ### the store grows -/
def Ext (S S' : Sto) : Prop := ∀ (i : Nat) (o : O), S[i]? = some o → S'[i]? = some o
theorem Ext.refl (S : Sto) : Ext S S := fun _ _ h => h
theorem Ext.trans {S S1 S2 : Sto} (a : Ext S S1) (b : Ext S1 S2) : Ext S S2 := fun i o h => b i o (a i o h)
theorem Ext.push (S : Sto) (o : O) : Ext S (S ++ [o]) := fun i u h => by
  rw [List.getElem?_append_left (List.getElem?_eq_some_iff.mp h).1]
  exact h
theorem Ext.len {S S' : Sto} (h : Ext S S') : S.length ≤ S'.length := by
  apply Nat.le_of_not_lt
  intro z
  have := h S'.length S[S'.length] (List.getElem?_eq_getElem z)
  simp at this
theorem Ext.set {S S' : Sto} {n : Nat} {o : O} (h : Ext S S') (hn : S.length ≤ n) : Ext S (S'.set n o) := fun i u e => by
  have := (List.getElem?_eq_some_iff.mp e).1
  rw [List.getElem?_set_ne (by omega)]
  exact h i u e
theorem push_at {S : Sto} {o : O} : (S ++ [o])[S.length]? = some o := by simp
theorem set_at {S : Sto} {n : Nat} {o u : O} (h : S[n]? = some u) : (S.set n o)[n]? = some o := List.getElem?_set_self (List.getElem?_eq_some_iff.mp h).1
theorem set_ne {S : Sto} {n m : Nat} {o : O} (h : n ≠ m) : (S.set n o)[m]? = S[m]? := List.getElem?_set_ne h
/-- what follows, shown once -/
theorem sq_cut {x y : WS} {k : KK} {ρ : Rho} {S : Sto} (I : Rho → Sto → Prop) (h : ∀ N : Rho → Sto → Prop, (∀ ρ S, I ρ S → N ρ S) → x { k with nx := N } ρ S) (h2 : ∀ ρ S, I ρ S → y k ρ S) : wSq x y k ρ S := h _ h2
theorem if_cut {t : WT} {x y : WS} {k : KK} {ρ : Rho} {S : Sto} (h : t (k.en ρ) S fun c S1 => if c = true then x k ρ S1 else y k ρ S1) : wIfS t x y k ρ S := h
section
variable {S : Sto} {Q : Q1} {n : Nat} {i : Int} {ds : List D} {d v : D}
theorem i_ref (h : S[n]? = some (.lst ds)) (e : atI ds i = some d) (q : Q d S) : idxD (.ref n) (.int i) S Q := by
  refine .inl ⟨ds, i, rfl, h, ?_⟩
  rw [e]
  exact q
theorem i_tup (e : atI ds i = some d) (q : Q d S) : idxD (.tup ds) (.int i) S Q := by
  show gv (atI ds i) _
  rw [e]
  exact q
theorem i_set {j : Nat} {P : Sto → Prop} (h : S[n]? = some (.lst ds)) (e : ixN ds.length i = some j) (q : P (S.set n (.lst (ds.set j v)))) : setD (.ref n) (.int i) v S P := by
  refine .inl ⟨ds, i, rfl, h, ?_⟩
  rw [e]
  exact q
end
/-- nothing but the object n is another -/
def Only1 (n : Nat) (S S' : Sto) : Prop := S'.length = S.length ∧ ∀ i, i ≠ n → S'[i]? = S[i]?
theorem Only1.refl (n : Nat) (S : Sto) : Only1 n S S := ⟨rfl, fun _ _ => rfl⟩
theorem Only1.trans {n : Nat} {S S1 S2 : Sto} (a : Only1 n S S1) (b : Only1 n S1 S2) : Only1 n S S2 := ⟨b.1.trans a.1, fun i h => (b.2 i h).trans (a.2 i h)⟩
theorem Only1.set {n : Nat} {S : Sto} {o : O} : Only1 n S (S.set n o) := ⟨List.length_set, fun i h => List.getElem?_set_ne (Ne.symm h)⟩
/-- the store grows, and the object n may be another -/
def ExtB (n : Nat) (S S' : Sto) : Prop := S.length ≤ S'.length ∧ ∀ (i : Nat) (o : O), i ≠ n → S[i]? = some o → S'[i]? = some o
theorem ExtB.refl (n : Nat) (S : Sto) : ExtB n S S := ⟨Nat.le_refl _, fun _ _ _ h => h⟩
theorem ExtB.trans {n : Nat} {S S1 S2 : Sto} (a : ExtB n S S1) (b : ExtB n S1 S2) : ExtB n S S2 := ⟨Nat.le_trans a.1 b.1, fun i o h e => b.2 i o h (a.2 i o h e)⟩
theorem Only1.ext {n : Nat} {S S' : Sto} (h : Only1 n S S') : ExtB n S S' := ⟨by rw [h.1]; exact Nat.le_refl _, fun i o hi e => by rw [h.2 i hi]; exact e⟩
theorem Ext.extB {n : Nat} {S S' : Sto} (h : Ext S S') : ExtB n S S' := ⟨h.len, fun i o _ e => h i o e⟩
theorem ExtB.push {n : Nat} {S : Sto} {o : O} : ExtB n S (S ++ [o]) := (Ext.push S o).extB
theorem ExtB.set {n m : Nat} {S S' : Sto} {o : O} (h : ExtB n S S') (hm : S.length ≤ m) : ExtB n S (S'.set m o) := ⟨by rw [List.length_set]; exact h.1, fun i u hi e => by
  have := (List.getElem?_eq_some_iff.mp e).1
  rw [List.getElem?_set_ne (by omega)]
  exact h.2 i u hi e⟩
section
variable {i j : Int} {S : Sto} {Q : Q1} {ds : List D} {n : Nat}
theorem c_int (q : Q (.int i) S) : intC [.int i] S Q := q
theorem i_ge (q : Q (.bl (decide (j ≤ i))) S) : cmpD .GtE (.int i) (.int j) S Q := q
theorem i_pow (h : CPow i j) (q : Q (.int (i ^ j.toNat)) S) : opPow (.int i) (.int j) S Q := ⟨h, q⟩
theorem c_tupT (q : Q (.tup ds) S) : tupleC [.tup ds] S Q := q
theorem c_tupL (h : S[n]? = some (.lst ds)) (q : Q (.tup ds) S) : tupleC [.ref n] S Q := ⟨ds, h, q⟩
theorem c_lstT (q : Q (.ref S.length) (S ++ [.lst ds])) : listC [.tup ds] S Q := q
theorem c_lstL (h : S[n]? = some (.lst ds)) (q : Q (.ref S.length) (S ++ [.lst ds])) : listC [.ref n] S Q := ⟨ds, h, q⟩
theorem c_lenT (q : Q (nt ds.length) S) : lenC [.tup ds] S Q := q
theorem c_lenL (h : S[n]? = some (.lst ds)) (q : Q (nt ds.length) S) : lenC [.ref n] S Q := .inl ⟨ds, h, q⟩
theorem s_fro {lo hi : Option Int} (q : Q (.ref S.length) (S ++ [.lst (cutD ds lo hi)])) : slcD (.fro ds) lo hi S Q := q
theorem m_app {d : D} (h : S[n]? = some (.lst ds)) (hl : ds.length < sizeLine) (q : Q .non (S.set n (.lst (ds ++ [d])))) : appM (.ref n) [d] S Q := ⟨ds, h, hl, q⟩
end
theorem rd_wp0 {ρ : Rho} : wipeR ρ [] = ρ := rfl
theorem rd_wp1 {ρ : Rho} {v : Nat} {vs : List Nat} : wipeR ρ (v :: vs) = putR (wipeR ρ vs) v none := rfl
/-! two lists of naturals compared -/
theorem dp_nts {S : Sto} : ∀ xs : List Nat, DpAllD S (xs.map nt) (xs.map fun n : Nat => PyData.int (n : Int))
  | [] => .nil
  | x :: r => .cons (.int _) (dp_nts r)
theorem lay_nts : ∀ xs : List Nat, PyData.canLayAll0 (xs.map fun n : Nat => PyData.int (n : Int)) = true
  | [] => rfl
  | x :: r => by
    show (true && PyData.canLayAll0 (r.map fun n : Nat => PyData.int (n : Int))) = true
    rw [lay_nts r]; rfl
theorem dep_nts : ∀ xs : List Nat, PyData.depthAll (xs.map fun n : Nat => PyData.int (n : Int)) = 0
  | [] => rfl
  | x :: r => by
    show max 0 (PyData.depthAll (r.map fun n : Nat => PyData.int (n : Int))) = 0
    rw [dep_nts r]; rfl
theorem eqv_nts : ∀ xs ys : List Nat, PyData.eqvAll (xs.map fun n : Nat => PyData.int (n : Int)) (ys.map fun n : Nat => PyData.int (n : Int)) = decide (xs = ys)
  | [], [] => rfl
  | [], _ :: _ => rfl
  | _ :: _, [] => rfl
  | x :: xs, y :: ys => by
    show (((x : Int) == (y : Int)) && PyData.eqvAll (xs.map fun n : Nat => PyData.int (n : Int)) (ys.map fun n : Nat => PyData.int (n : Int))) = decide (x :: xs = y :: ys)
    rw [eqv_nts xs ys]
    rw [Bool.eq_iff_iff]
    simp only [Bool.and_eq_true, beq_iff_eq, decide_eq_true_eq, List.cons.injEq]
    constructor
    · rintro ⟨a, b⟩
      exact ⟨by omega, b⟩
    · rintro ⟨a, b⟩
      exact ⟨by omega, b⟩
theorem shp_lst (xs : List Nat) : SeqAt.shaped (.list (xs.map fun n : Nat => PyData.int (n : Int))) = true := by
  unfold SeqAt.shaped
  rw [Bool.and_eq_true_iff]
  refine ⟨lay_nts xs, decide_eq_true ?_⟩
  show PyData.depthAll (xs.map fun n : Nat => PyData.int (n : Int)) + 1 ≤ 64
  rw [dep_nts]
  decide
theorem eq_lists {S : Sto} {Q : Q1} {p q : Nat} {xs ys : List Nat} {neg : Bool} (h1 : S[p]? = some (.lst (xs.map nt))) (h2 : S[q]? = some (.lst (ys.map nt))) (k : Q (.bl (sg neg (decide (xs = ys)))) S) : cmpEq neg (.ref p) (.ref q) S Q := by
  refine ⟨_, _, .lst h1 (dp_nts xs), .lst h2 (dp_nts ys), shp_lst xs, shp_lst ys, ?_⟩
  show Q (.bl (sg neg (PyData.eqvAll _ _))) S
  rw [eqv_nts]
  exact k
theorem l_eq {S : Sto} {Q : Q1} {p q : Nat} {xs ys : List Nat} (h1 : S[p]? = some (.lst (xs.map nt))) (h2 : S[q]? = some (.lst (ys.map nt))) (k : Q (.bl (decide (xs = ys))) S) : cmpD .Eq (.ref p) (.ref q) S Q := eq_lists (neg := false) h1 h2 k
theorem l_ne {S : Sto} {Q : Q1} {p q : Nat} {xs ys : List Nat} (h1 : S[p]? = some (.lst (xs.map nt))) (h2 : S[q]? = some (.lst (ys.map nt))) (k : Q (.bl (!decide (xs = ys))) S) : cmpD .NotEq (.ref p) (.ref q) S Q := eq_lists (neg := true) h1 h2 k
theorem i_sset {n : Nat} {hs : List Nat} {S : Sto} {Q : Q1} (hn : S[n]? = some (.lst (hs.map nt))) (hl : hs.length ≤ 4000) (q : ∀ ms : List Nat, ms.Pairwise (· < ·) → (∀ k, k ∈ ms ↔ k ∈ hs) → Q (.ref S.length) (S ++ [.lst (ms.map nt)])) : ssetD (.ref n) S Q := by
  have e : hs.map nt = (hs.map fun h : Nat => (h : Int)).map D.int := by rw [List.map_map]; rfl
  refine ⟨hs.map fun h : Nat => (h : Int), by rw [← e]; exact hn, by rw [List.length_map]; exact hl, fun ms h1 h2 => ?_⟩
  have hpos : ∀ k ∈ ms, 0 ≤ k := fun k hk => by
    obtain ⟨h, _, rfl⟩ := List.mem_map.mp ((h2 k).mp hk)
    exact Int.natCast_nonneg h
  have e2 : ms.map D.int = (ms.map Int.toNat).map nt := by
    rw [List.map_map]
    refine List.map_congr_left fun k hk => ?_
    show D.int k = D.int (k.toNat : Int)
    rw [Int.toNat_of_nonneg (hpos k hk)]
  rw [e2]
  refine q _ ?_ fun k => ?_
  · rw [List.pairwise_map]
    exact List.Pairwise.imp_of_mem (fun {a b} ha hb h => by
      have := hpos a ha
      have := hpos b hb
      omega) h1
  · rw [List.mem_map]
    constructor
    · rintro ⟨a, ha, rfl⟩
      obtain ⟨h, hh, e⟩ := List.mem_map.mp ((h2 a).mp ha)
      subst e
      exact hh
    · intro hk
      exact ⟨(k : Int), (h2 _).mpr (List.mem_map.mpr ⟨k, hk, rfl⟩), Int.toNat_natCast k⟩
end WW


set_option Elab.async false
set_option linter.all false
set_option maxRecDepth 100000
set_option maxHeartbeats 4000000
set_option autoImplicit false
namespace WW
open PySem PySem.Spec PyProof.Rows L2
local macro_rules | `(tactic| walk_at "w") => `(tactic| try dsimp only [en_2, ap_var, ap_cst, ap_op, ap_neg, ap_notV, ap_andV, ap_orV, ap_chain, ap_if, ap_nil, ap_cons, ap_tup, ap_lst, ap_noP, ap_part, ap_slc, ap_call, ap_callX, ap_blt, ap_isi, ap_or, ap_lstR, ap_tupR, ap_dct, ap_fld, ap_mth, ap_mak, ap_fset, ap_forN, ap_met, ap_bits, ap_tst, ap_tsB, ap_notB, ap_andB, ap_orB, ap_yes, ap_lc, ap_sset, ap_asg, ap_asgP, ap_set, ap_drop, ap_ret, ap_retN, ap_brk, ap_cnt, ap_pas, ap_sq, ap_ifS, ap_for, ap_seqI, ap_rng, ap_enum, look, putR, kkOf, rd_int, rd_bl, rd_T, rd_F, rd_nm, rd_tp, rd_nil, rd_cons, rd_gv, rd_trB, rd_srcT, rd_rng1, rd_rng2, rd_notT, rd_notF, rd_wp0, rd_wp1, rd_rg1, rd_rg2, ty_non, ty_bl, ty_int, ty_str, ty_tup, isiB])
/- all_lot(width): slots width=0 -/
def c_all_lot : WS :=
  (wRet (wOp opSub (wOp opShl (wCst (.int 1)) (wOp opShl (wCst (.int 1)) (wVar 0))) (wCst (.int 1))))

/- zeros_lot(bit, width): slots bit=0 width=1 -/
def c_zeros_lot (p_all_lot : Spec) : WS :=
  (wRet (wOp opDiv (wCall 1 p_all_lot (wCons (wVar 1) wNil)) (wOp opAdd (wOp opShl (wCst (.int 1)) (wOp opShl (wCst (.int 1)) (wVar 0))) (wCst (.int 1)))))

/- lot_of(care, value, width): slots care=0 value=1 width=2 lot=3 bit=4 low=5 -/
def c_lot_of_1 (p_all_lot : Spec) (p_zeros_lot : Spec) : WS :=
  (wIfS (wTst (wOp opAnd (wOp opShr (wVar 0) (wVar 4)) (wCst (.int 1)))) (wSq (wAsg 5 (wOp opAnd (wVar 3) (wCall 2 p_zeros_lot (wCons (wVar 4) (wCons (wVar 2) wNil))))) (wAsg 3 (wIf (wTst (wOp opAnd (wOp opShr (wVar 1) (wVar 4)) (wCst (.int 1)))) (wOp opSub (wVar 3) (wVar 5)) (wVar 5)))) wPas)
def c_lot_of (p_all_lot : Spec) (p_zeros_lot : Spec) : WS :=
  (wSq (wAsg 3 (wCall 1 p_all_lot (wCons (wVar 2) wNil)))
  (wSq (wFor (wRng (wCons (wVar 2) wNil)) (.nm 4) (c_lot_of_1 p_all_lot p_zeros_lot))
  (wRet (wVar 3))))

/- lot_headers(lot): slots lot=0 found=1 rest=2 lowest=3 -/
def c_lot_headers_1 : WS :=
  (wSq (wAsg 3 (wOp opAnd (wVar 2) (wNeg (wVar 2))))
  (wSq (wDrop (wMet lstTy appM (wVar 1) (wCons (wOp opSub (wBits (wVar 3)) (wCst (.int 1))) wNil)))
  (wAsg 2 (wOp opSub (wVar 2) (wVar 3)))))
def c_lot_headers : WS :=
  (wSq (wAsg 1 (wLst wNil))
  (wSq (wAsg 2 (wVar 0))
  (wSq (wWhl (wTst (wVar 2)) c_lot_headers_1)
  (wRet (wBlt tupleC (wCons (wVar 1) wNil))))))

/- lot_count(lot): slots lot=0 many=1 rest=2 -/
def c_lot_count_1 : WS :=
  (wSq (wAsg 2 (wOp opAnd (wVar 2) (wOp opSub (wVar 2) (wCst (.int 1)))))
  (wAsg 1 (wOp opAdd (wVar 1) (wCst (.int 1)))))
def c_lot_count : WS :=
  (wSq (wAsg 1 (wCst (.int 0)))
  (wSq (wAsg 2 (wVar 0))
  (wSq (wWhl (wTst (wVar 2)) c_lot_count_1)
  (wRet (wVar 1)))))

/- least_header(lot): slots lot=0 -/
def c_least_header : WS :=
  (wSq (wIfS (wTsB (wOp (cmpD .Eq) (wVar 0) (wCst (.int 0)))) (wRet (wCst .non)) wPas)
  (wRet (wOp opSub (wBits (wOp opAnd (wVar 0) (wNeg (wVar 0)))) (wCst (.int 1)))))


/-! ### the lots' functions keep their promises -/
def sp_all_lot : Spec := fun ds S Q => ∃ w : Nat, ds = [nt w] ∧ w ≤ 13 ∧ Q (nt (allN w)) S
theorem pow13 {w : Nat} (h : w ≤ 13) : 2 ^ w ≤ 8192 := by
  have := Nat.pow_le_pow_right (show 0 < 2 by decide) h
  exact this
theorem good_all_lot : Good 1 1 c_all_lot sp_all_lot := by
  intro ds S Q _ h
  obtain ⟨w, rfl, hw, q⟩ := h
  show c_all_lot (kkOf Q) [some (nt w)] S
  unfold c_all_lot
  walk_at "w"
  have h1 := pow13 hw
  refine n_shl1 (by omega) (n_shl1 (by omega) (n_sub (b := 1) (Nat.two_pow_pos _) ?_))
  exact q
def sp_zeros_lot : Spec := fun ds S Q => ∃ b w : Nat, ds = [nt b, nt w] ∧ w ≤ 13 ∧ b < w ∧ Q (nt (zerosN b w)) S
theorem good_zeros_lot : Good 2 2 (c_zeros_lot sp_all_lot) sp_zeros_lot := by
  intro ds S Q _ h
  obtain ⟨b, w, rfl, hw, hb, q⟩ := h
  show c_zeros_lot sp_all_lot (kkOf Q) [some (nt b), some (nt w)] S
  unfold c_zeros_lot
  walk_at "w"
  have h1 := pow13 (show b ≤ 13 by omega)
  refine callI rfl ⟨w, rfl, hw, ?_⟩
  refine n_shl1 (by omega) (n_shl1 (by omega) (n_add (b := 1) (n_div (Nat.succ_pos _) ?_ ?_)))
  · have h2 : 2 ^ 2 ^ b ≤ 2 ^ 8192 := Nat.pow_le_pow_right (by decide) (by omega)
    have h3 : 2 ^ 8193 ≤ 2 ^ 8999 := Nat.pow_le_pow_right (by decide) (by decide)
    have h4 : 2 ^ 8193 = 2 ^ 8192 * 2 := Nat.pow_succ 2 8192
    have h5 := Nat.two_pow_pos 8192
    omega
  · rw [zeros_div hb]
    exact q
def sp_lot_of : Spec := fun ds S Q => ∃ c v w : Nat, ds = [nt c, nt v, nt w] ∧ w ≤ 13 ∧ Q (nt (lotN c v w)) S
theorem good_lot_of : Good 6 3 (c_lot_of sp_all_lot sp_zeros_lot) sp_lot_of := by
  intro ds S Q _ h
  obtain ⟨c, v, w, rfl, hw, q⟩ := h
  show c_lot_of sp_all_lot sp_zeros_lot (kkOf Q) [some (nt c), some (nt v), some (nt w), none, none, none] S
  unfold c_lot_of
  walk_at "w"
  refine callI rfl ⟨w, rfl, hw, ?_⟩
  refine ⟨by omega, ?_⟩
  rw [Int.toNat_natCast]
  refine forR (fun i ρ S' => S' = S ∧ ∃ x y, ρ = [some (nt c), some (nt v), some (nt w), some (nt (lotK c v w i)), x, y]) ⟨rfl, none, none, by rw [lotK_zero]⟩ (fun i ρ S' N hi hI hN => ?_) fun ρ S' hI => ?_
  · obtain ⟨rfl, x, y, rfl⟩ := hI
    rw [Int.zero_add]
    walk_at "w"
    unfold c_lot_of_1
    walk_at "w"
    refine n_bit (n_truB ?_)
    cases hc : c.testBit i with
    | false => exact hN _ _ ⟨rfl, _, _, by rw [← lotK_turn hc]⟩
    | true =>
      refine callI rfl ⟨i, w, rfl, hw, hi, n_and (n_bit (n_truB ?_))⟩
      cases hv : v.testBit i with
      | false => exact hN _ _ ⟨rfl, _, _, by rw [← lotK_turn0 hc hv]⟩
      | true =>
        obtain ⟨h1, h2⟩ := lotK_turn1 (w := w) hc hv
        walk_at "w"
        refine n_sub h1 ?_
        exact hN _ _ ⟨rfl, _, _, by rw [← h2]⟩
  · obtain ⟨rfl, x, y, rfl⟩ := hI
    exact q
theorem hd_getD {α : Type} (l : List α) (x : α) (r : List α) (h : l = x :: r) : l[0]? = some x := by rw [h]; rfl
/-- the loop of lot_headers: what is found, what is left -/
theorem low_neg {r : Nat} (h : 0 < r) : Builtin.bitAnd (r : Int) (-(r : Int)) = ((r - (r &&& (r - 1)) : Nat) : Int) := by
  rw [bitAnd_pn (Int.natCast_nonneg r) (by omega)]
  have e : (Builtin.bitNot (-(r : Int))).toNat = r - 1 := by
    unfold Builtin.bitNot
    omega
  rw [e, Int.toNat_natCast]
  have : r &&& (r - 1) ≤ r := Nat.and_le_left
  omega
def sp_lot_headers : Spec := fun ds S Q => ∃ L n : Nat, ds = [nt L] ∧ L < 2 ^ n ∧ n ≤ 100000 ∧ ∀ S', Ext S S' → Q (.tup ((hdrs n L).map nt)) S'
/-- what is left behind the first k headers -/
def above (L k : Nat) : Nat := L >>> k <<< k
theorem above_bit (L k i : Nat) : (above L k).testBit i = (decide (k ≤ i) && L.testBit i) := by
  unfold above
  rw [Nat.testBit_shiftLeft, Nat.testBit_shiftRight]
  by_cases h : k ≤ i
  · simp [h, show k + (i - k) = i by omega]
  · simp [h]
theorem above_zero (L : Nat) : above L 0 = L := by unfold above; simp
/-- from k to the next header j: nothing lies between -/
theorem hdrs_jump {L j : Nat} : ∀ (m k : Nat), k + m = j → (∀ i, k ≤ i → i < j → L.testBit i = false) → hdrs j L = hdrs k L
  | 0, k, h, _ => by rw [← h]; rfl
  | m + 1, k, h, g => by
    have h1 : hdrs (k + 1) L = hdrs k L := by
      rw [hdrs_succ, g k (Nat.le_refl _) (by omega)]
      simp
    rw [← h1]
    exact hdrs_jump m (k + 1) (by omega) fun i a b => g i (by omega) b
theorem hdrs_top {L k n : Nat} (h : above L k = 0) (hk : k ≤ n) : hdrs n L = hdrs k L := hdrs_jump (n - k) k (by omega) fun i a _ => by
  have := above_bit L k i
  rw [h] at this
  simp [a] at this
  exact this
/-- one turn: the lowest header of what is left -/
theorem above_turn {L k n : Nat} (hL : L < 2 ^ n) (h0 : above L k ≠ 0) : ∃ j, k ≤ j ∧ j < n ∧ L.testBit j = true ∧ hdrs j L = hdrs k L ∧ above L k &&& (above L k - 1) = above L k - 2 ^ j ∧ 2 ^ j ≤ above L k ∧ above L k - 2 ^ j = above L (j + 1) := by
  have hlt : above L k < 2 ^ n := lt_of_bits fun i hi => by rw [above_bit, bit_lt hL hi]; simp
  obtain ⟨j, j1, j2, j3, j4⟩ := and_pred n (above L k) hlt (by omega)
  have hk : k ≤ j ∧ L.testBit j = true := by
    rw [above_bit, Bool.and_eq_true_iff] at j2
    exact ⟨of_decide_eq_true j2.1, j2.2⟩
  have hz : ∀ i, k ≤ i → i < j → L.testBit i = false := fun i a b => by
    have := j3 i b
    rw [above_bit] at this
    simpa [a] using this
  refine ⟨j, hk.1, j1, hk.2, hdrs_jump (j - k) k (by omega) hz, j4, bit_low j2, ?_⟩
  apply bit_ext
  intro i
  rw [bit_take j2, above_bit, above_bit]
  by_cases e : j = i
  · subst e
    have : ¬ j + 1 ≤ j := by omega
    simp [this]
  · by_cases h1 : i < j
    · have h2 : ¬ j + 1 ≤ i := by omega
      by_cases h3 : k ≤ i
      · simp [h2, hz i h3 h1]
      · simp [h2, h3]
    · have h2 : j + 1 ≤ i := by omega
      have h3 : k ≤ i := by omega
      simp [e, h2, h3]
theorem sz_of' {n : Nat} (h : n ≤ 100000) : n < sizeLine := Nat.lt_of_le_of_lt h (by decide)
theorem good_lot_headers : Good 4 1 c_lot_headers sp_lot_headers := by
  intro ds S Q _ h
  obtain ⟨L, n, rfl, hL, hn, q⟩ := h
  show c_lot_headers (kkOf Q) [some (nt L), none, none, none] S
  unfold c_lot_headers
  walk_at "w"
  refine ⟨Nat.zero_le _, ?_⟩
  refine whl (fun m ρ S' => ∃ k x, k + m = n + 1 ∧ ρ = [some (nt L), some (.ref S.length), some (nt (above L k)), x] ∧ Ext S S' ∧ S'[S.length]? = some (.lst ((hdrs k L).map nt))) (n := n + 1)
    ⟨0, none, by omega, by rw [above_zero], Ext.push _ _, push_at⟩ (fun m ρ S' N hI hN => ?_)
  obtain ⟨k, x, hk, rfl, he, hs⟩ := hI
  walk_at "w"
  refine n_tru ?_
  by_cases h0 : above L k = 0
  · rw [h0]
    have hkn : hdrs n L = hdrs k L := by
      by_cases hl : k ≤ n
      · exact hdrs_top h0 hl
      · have e : k = n + 1 := by omega
        rw [e, hdrs_succ, bit_lt hL (Nat.le_refl n)]
        simp
    refine ⟨_, hs, ?_⟩
    rw [← hkn]
    exact q S' he
  · obtain ⟨j, j1, j2, j3, j4, j5, j6, j7⟩ := above_turn hL h0
    rw [show (!decide (above L k = 0)) = true by simp [h0], if_pos rfl]
    unfold c_lot_headers_1
    walk_at "w"
    show opAnd (nt (above L k)) (.int (-((above L k : Nat) : Int))) S' _
    have e1 : Builtin.bitAnd ((above L k : Nat) : Int) (-((above L k : Nat) : Int)) = ((2 ^ j : Nat) : Int) := by
      rw [low_neg (by omega), j5]
      congr 1
      have := Nat.two_pow_pos j
      omega
    have e2 : ∀ Q : Q1, Q (nt (2 ^ j)) S' → opAnd (nt (above L k)) (.int (-((above L k : Nat) : Int))) S' Q := fun Q q => by
      show Q (.int _) S'
      rw [e1]
      exact q
    refine e2 _ ⟨⟨_, hs⟩, ?_⟩
    walk_at "w"
    rw [bits_eq]
    refine n_sub (a := j + 1) (b := 1) (by omega) ⟨_, hs, by rw [List.length_map]; exact sz_of' (Nat.le_trans (hdrs_len_le k L) (by omega)), ?_⟩
    refine n_sub j6 ?_
    refine hN (m - (j + 1 - k)) _ _ (by omega) ⟨j + 1, _, by omega, by rw [j7], he.set (Nat.le_refl _), ?_⟩
    rw [set_at hs, hdrs_succ, j3, j4]
    simp
/-- the number of headers -/
def sp_lot_count : Spec := fun ds S Q => ∃ L n : Nat, ds = [nt L] ∧ L < 2 ^ n ∧ Q (nt (hdrs n L).length) S
theorem good_lot_count : Good 3 1 c_lot_count sp_lot_count := by
  intro ds S Q _ h
  obtain ⟨L, n, rfl, hL, q⟩ := h
  show c_lot_count (kkOf Q) [some (nt L), none, none] S
  unfold c_lot_count
  walk_at "w"
  refine whl (fun m ρ S' => ∃ k, k + m = n + 1 ∧ ρ = [some (nt L), some (nt (hdrs k L).length), some (nt (above L k))] ∧ S' = S) (n := n + 1)
    ⟨0, by omega, by rw [above_zero]; rfl, rfl⟩ (fun m ρ S' N hI hN => ?_)
  obtain ⟨k, hk, rfl, rfl⟩ := hI
  walk_at "w"
  refine n_tru ?_
  by_cases h0 : above L k = 0
  · rw [h0]
    have hkn : hdrs n L = hdrs k L := by
      by_cases hl : k ≤ n
      · exact hdrs_top h0 hl
      · have e : k = n + 1 := by omega
        rw [e, hdrs_succ, bit_lt hL (Nat.le_refl n)]
        simp
    rw [hkn] at q
    exact q
  · obtain ⟨j, j1, j2, j3, j4, j5, j6, j7⟩ := above_turn hL h0
    rw [show (!decide (above L k = 0)) = true by simp [h0], if_pos rfl]
    unfold c_lot_count_1
    walk_at "w"
    refine n_sub (a := above L k) (b := 1) (by omega) (n_and ?_)
    rw [j5, j7]
    refine n_add (b := 1) ?_
    refine hN (m - (j + 1 - k)) _ _ (by omega) ⟨j + 1, by omega, ?_, rfl⟩
    rw [hdrs_succ, j3, j4, if_pos rfl, List.length_append]
    rfl
/-- the least header, or None -/
def leastD : List Nat → D
  | [] => .non
  | h :: _ => nt h
def sp_least_header : Spec := fun ds S Q => ∃ L n : Nat, ds = [nt L] ∧ L < 2 ^ n ∧ Q (leastD (hdrs n L)) S
theorem good_least_header : Good 1 1 c_least_header sp_least_header := by
  intro ds S Q _ h
  obtain ⟨L, n, rfl, hL, q⟩ := h
  show c_least_header (kkOf Q) [some (nt L)] S
  unfold c_least_header
  walk_at "w"
  refine n_eq (b := 0) ?_
  walk_at "w"
  by_cases h0 : L = 0
  · subst h0
    rw [hdrs_zero] at q
    exact q
  · rw [show decide (L = 0) = false by simp [h0]]
    walk_at "w"
    have h1 : above L 0 ≠ 0 := by rw [above_zero]; exact h0
    obtain ⟨j, j1, j2, j3, j4, j5, j6, j7⟩ := above_turn hL h1
    rw [above_zero] at j5 j6 j7
    have e1 : Builtin.bitAnd (L : Int) (-(L : Int)) = ((2 ^ j : Nat) : Int) := by
      rw [low_neg (by omega), j5]
      congr 1
      have := Nat.two_pow_pos j
      omega
    have e2 : ∀ Q : Q1, Q (nt (2 ^ j)) S → opAnd (nt L) (.int (-(L : Int))) S Q := fun Q q => by
      show Q (.int _) S
      rw [e1]
      exact q
    refine e2 _ ?_
    walk_at "w"
    rw [bits_eq]
    refine n_sub (a := j + 1) (b := 1) (by omega) ?_
    have h3 : hdrs (j + 1) L = [j] := by
      rw [hdrs_succ, j3, j4]
      rfl
    have h4 : ∃ r, hdrs n L = j :: r := by
      have hp : ∀ m, ∃ r, hdrs (j + 1 + m) L = j :: r := by
        intro m
        induction m with
        | zero => exact ⟨[], h3⟩
        | succ m ih =>
          obtain ⟨r, e⟩ := ih
          rw [show j + 1 + (m + 1) = (j + 1 + m) + 1 by omega, hdrs_succ, e]
          exact ⟨_, rfl⟩
      obtain ⟨r, e⟩ := hp (n - (j + 1))
      rw [show j + 1 + (n - (j + 1)) = n by omega] at e
      exact ⟨r, e⟩
    obtain ⟨r, e⟩ := h4
    rw [e] at q
    exact q
end WW


set_option Elab.async false
set_option linter.all false
set_option maxRecDepth 100000
set_option maxHeartbeats 4000000
set_option autoImplicit false
namespace WW
open PySem PySem.Spec PyProof.Rows L2
local macro_rules | `(tactic| walk_at "w") => `(tactic| try dsimp only [en_2, ap_var, ap_cst, ap_op, ap_neg, ap_notV, ap_andV, ap_orV, ap_chain, ap_if, ap_nil, ap_cons, ap_tup, ap_lst, ap_noP, ap_part, ap_slc, ap_call, ap_callX, ap_blt, ap_isi, ap_or, ap_lstR, ap_tupR, ap_dct, ap_fld, ap_mth, ap_mak, ap_fset, ap_forN, ap_met, ap_bits, ap_tst, ap_tsB, ap_notB, ap_andB, ap_orB, ap_yes, ap_lc, ap_sset, ap_asg, ap_asgP, ap_set, ap_drop, ap_ret, ap_retN, ap_brk, ap_cnt, ap_pas, ap_sq, ap_ifS, ap_for, ap_seqI, ap_rng, ap_enum, look, putR, kkOf, rd_int, rd_bl, rd_T, rd_F, rd_nm, rd_tp, rd_nil, rd_cons, rd_gv, rd_trB, rd_srcT, rd_rng1, rd_rng2, rd_notT, rd_notF, rd_wp0, rd_wp1, rd_rg1, rd_rg2, ty_non, ty_bl, ty_int, ty_str, ty_tup, isiB])
/- _law_begin(script): slots script=0 -/
def c_law_begin : WS :=
  (wRet (wLst (wCons (wCst (.int 0)) (wCons (wCst (.int 0)) (wCons (wCst (.int 0)) (wCons (wCst (.int 0)) (wCons (wBlt listC (wCons (wSlc (wVar 0) wNoP (wPart (wCst (.int 63)))) wNil)) wNil)))))))

/- _law_draw(d, many): slots d=0 many=1 cell=2 number=3 digit=4 mixed=5 -/
def c_law_draw : WS :=
  (wSq (wIfS (wTsB (wOp (cmpD .Lt) (wVar 1) (wCst (.int 2)))) (wRet (wCst (.int 0))) wPas)
  (wSq (wIfS (wAndB (wTsB (wOp (cmpD .Eq) (wOp idxD (wVar 0) (wCst (.int 1))) (wCst (.int 0)))) (wTsB (wOp (cmpD .Lt) (wOp idxD (wVar 0) (wCst (.int 2))) (wBlt lenC (wCons (wOp idxD (wVar 0) (wCst (.int 4))) wNil))))) (wSq (wAsg 2 (wOp idxD (wOp idxD (wVar 0) (wCst (.int 4))) (wOp idxD (wVar 0) (wCst (.int 2))))) (wSq (wSet (wVar 0) (wCst (.int 2)) (wOp opAdd (wOp idxD (wVar 0) (wCst (.int 2))) (wCst (.int 1)))) (wSq (wAsg 3 (wIf (wTsB (wOp (cmpD .GtE) (wVar 2) (wCst (.int 0)))) (wVar 2) (wNeg (wVar 2)))) (wIfS (wTsB (wOp (cmpD .GtE) (wVar 3) (wOp opPow (wCst (.int 10)) (wCst (.int 18))))) (wSet (wVar 0) (wCst (.int 1)) (wVar 3)) (wSet (wVar 0) (wCst (.int 0)) (wOp opMod (wBlt intC (wCons (wOp opAdd (wOp opAdd (wOp opMul (wOp idxD (wVar 0) (wCst (.int 0))) (wCst (.int 69621))) (wOp opMul (wVar 3) (wCst (.int 48271)))) (wCst (.int 12345))) wNil)) (wCst (.int 2147483647)))))))) wPas)
  (wSq (wIfS (wTsB (wOp (cmpD .Gt) (wOp idxD (wVar 0) (wCst (.int 1))) (wCst (.int 0)))) (wSq (wAsg 4 (wOp opMod (wBlt intC (wCons (wOp idxD (wVar 0) (wCst (.int 1))) wNil)) (wVar 1))) (wSq (wSet (wVar 0) (wCst (.int 1)) (wOp opDiv (wOp idxD (wVar 0) (wCst (.int 1))) (wVar 1))) (wRet (wVar 4)))) wPas)
  (wSq (wSet (wVar 0) (wCst (.int 3)) (wOp opAdd (wOp idxD (wVar 0) (wCst (.int 3))) (wCst (.int 1))))
  (wSq (wSet (wVar 0) (wCst (.int 0)) (wOp opMod (wBlt intC (wCons (wOp opAdd (wOp opAdd (wOp opMul (wOp idxD (wVar 0) (wCst (.int 0))) (wCst (.int 48271))) (wOp opMul (wOp idxD (wVar 0) (wCst (.int 3))) (wCst (.int 7919)))) (wCst (.int 11))) wNil)) (wCst (.int 2147483647))))
  (wSq (wAsg 5 (wOp opMod (wBlt intC (wCons (wOp opAdd (wOp opMul (wOp idxD (wVar 0) (wCst (.int 0))) (wOp idxD (wVar 0) (wCst (.int 0)))) (wOp idxD (wVar 0) (wCst (.int 3)))) wNil)) (wCst (.int 2147483629))))
  (wRet (wOp opMod (wBlt intC (wCons (wOp opDiv (wVar 5) (wCst (.int 7))) wNil)) (wVar 1)))))))))

/- _law_rare(d, many): slots d=0 many=1 -/
def c_law_rare (p_law_draw : Spec) : WS :=
  (wRet (wOp (cmpD .Eq) (wCall 2 p_law_draw (wCons (wVar 0) (wCons (wVar 1) wNil))) (wOp opDiv (wVar 1) (wCst (.int 2)))))


/-! ### the law's own draws: what they hand back is in bounds, and no more is asked -/
structure DrawAt (S : Sto) (n a b c e m : Nat) (cs : List Int) : Prop where
  at_ : S[n]? = some (.lst [nt a, nt b, nt c, nt e, .ref m])
  cells : S[m]? = some (.lst (cs.map D.int))
  ne : n ≠ m
  small : a < 2147483647
def DrawS (S : Sto) (n : Nat) : Prop := ∃ a b c e m cs, DrawAt S n a b c e m cs
theorem DrawS.lt {S : Sto} {n : Nat} (h : DrawS S n) : n < S.length := by
  obtain ⟨a, b, c, e, m, cs, h⟩ := h
  exact (List.getElem?_eq_some_iff.mp h.at_).1
theorem DrawAt.set {S : Sto} {n a b c e m a' b' c' e' : Nat} {cs : List Int} (h : DrawAt S n a b c e m cs) (ha : a' < 2147483647) : DrawAt (S.set n (.lst [nt a', nt b', nt c', nt e', .ref m])) n a' b' c' e' m cs :=
  ⟨set_at h.at_, by rw [set_ne h.ne]; exact h.cells, h.ne, ha⟩
theorem DrawS.ext {S S' : Sto} {n : Nat} (h : DrawS S n) (e : Ext S S') : DrawS S' n := by
  obtain ⟨a, b, c, d, m, cs, h⟩ := h
  exact ⟨a, b, c, d, m, cs, e _ _ h.at_, e _ _ h.cells, h.ne, h.small⟩
theorem DrawS.setAbove {S : Sto} {n k : Nat} {o : O} (h : DrawS S n) (hk : ∀ m u, S[m]? = some u → m ≠ k) : DrawS (S.set k o) n := by
  obtain ⟨a, b, c, d, m, cs, h⟩ := h
  exact ⟨a, b, c, d, m, cs, by rw [set_ne (Ne.symm (hk _ _ h.at_))]; exact h.at_, by rw [set_ne (Ne.symm (hk _ _ h.cells))]; exact h.cells, h.ne, h.small⟩
def sp_law_begin : Spec := fun ds S Q => ∃ ns : List Int, ds = [.fro (ns.map D.int)] ∧ ∀ n S', S.length ≤ n → Ext S S' → DrawS S' n → Q (.ref n) S'
theorem good_law_begin : Good 1 1 c_law_begin sp_law_begin := by
  intro ds S Q _ h
  obtain ⟨ns, rfl, q⟩ := h
  show c_law_begin (kkOf Q) [some (.fro (ns.map D.int))] S
  unfold c_law_begin
  walk_at "w"
  refine s_fro (c_lstL push_at ⟨by show 5 ≤ sizeLine; decide, ?_⟩)
  have e : ∃ cs : List Int, cutD (ns.map D.int) none (some 63) = cs.map D.int := by
    unfold cutD
    rw [← List.map_drop, ← List.map_take]
    exact ⟨_, rfl⟩
  obtain ⟨cs, e⟩ := e
  rw [e]
  have e1 := Ext.push S (.lst (cs.map D.int))
  have e2 := Ext.push (S ++ [.lst (cs.map D.int)]) (.lst (cs.map D.int))
  have e3 := fun o => Ext.push (S ++ [.lst (cs.map D.int)] ++ [.lst (cs.map D.int)]) o
  refine q _ _ ?_ ((e1.trans e2).trans (e3 _)) ⟨0, 0, 0, 0, _, cs, push_at, e3 _ _ _ push_at, ?_, by decide⟩
  · simp
  · simp
def sp_law_draw : Spec := fun ds S Q => ∃ n many : Nat, ds = [.ref n, nt many] ∧ DrawS S n ∧ many < 2 ^ 8999 ∧ ∀ (r : Nat) S', (2 ≤ many → r < many) → (many < 2 → r = 0) → DrawS S' n → Only1 n S S' → Q (nt r) S'
theorem cell_at {cs : List Int} {c : Nat} (h : c < cs.length) : atI (cs.map D.int) (c : Int) = some (.int cs[c]) := by
  apply atI_nat
  rw [List.getElem?_map, List.getElem?_eq_getElem h]
  rfl
theorem good_law_draw : Good 6 2 c_law_draw sp_law_draw := by
  intro ds S Q _ h
  obtain ⟨n, many, rfl, hD, hm, q⟩ := h
  show c_law_draw (kkOf Q) [some (.ref n), some (nt many), none, none, none, none] S
  unfold c_law_draw
  refine sq_cut (fun ρ S' => S' = S ∧ 2 ≤ many ∧ ρ = [some (.ref n), some (nt many), none, none, none, none]) (fun N hN => ?_) (fun ρ S' hI => ?_)
  · walk_at "w"
    refine n_lt (b := 2) ?_
    walk_at "w"
    by_cases h : many < 2
    · rw [show decide (many < 2) = true by simp [h]]
      exact q 0 S (fun _ => by omega) (fun _ => rfl) hD (Only1.refl _ _)
    · rw [show decide (many < 2) = false by simp [h]]
      exact hN _ _ ⟨rfl, by omega, rfl⟩
  obtain ⟨rfl, h2, rfl⟩ := hI
  refine sq_cut (fun ρ S1 => DrawS S1 n ∧ Only1 n S' S1 ∧ ∃ x y, ρ = [some (.ref n), some (nt many), x, y, none, none]) (fun N hN => ?_) (fun ρ S1 hI => ?_)
  · obtain ⟨a, b, c, e, m, cs, hA⟩ := hD
    have skip : N [some (.ref n), some (nt many), none, none, none, none] S' := hN _ _ ⟨⟨a, b, c, e, m, cs, hA⟩, Only1.refl _ _, _, _, rfl⟩
    walk_at "w"
    refine i_ref hA.at_ rfl (n_eq (b := 0) ?_)
    walk_at "w"
    by_cases hb : b = 0
    · rw [show decide (b = 0) = true by simp [hb]]
      walk_at "w"
      refine i_ref hA.at_ rfl (i_ref hA.at_ rfl (c_lenL hA.cells (n_lt (a := c) ?_)))
      walk_at "w"
      rw [List.length_map]
      by_cases hc : c < cs.length
      · rw [show decide (c < cs.length) = true by simp [hc]]
        walk_at "w"
        refine i_ref hA.at_ rfl (i_ref hA.at_ rfl (i_ref hA.cells (cell_at hc) ?_))
        walk_at "w"
        refine i_ref hA.at_ rfl (n_add (a := c) (b := 1) (i_set (j := 2) hA.at_ rfl ?_))
        have hA1 := hA.set (b' := b) (c' := c + 1) (e' := e) hA.small
        -- the number of the cell
        have fin : ∀ k : Nat, opPow (.int 10) (.int 18) (S'.set n (.lst [nt a, nt b, nt (c + 1), nt e, .ref m])) (fun y S2 => cmpD .GtE (nt k) y S2 fun d S1 => isBl d fun b => if b = true then
            setD (.ref n) (.int 1) (nt k) S1 (fun S4 => N [some (.ref n), some (nt many), some (.int cs[c]), some (nt k), none, none] S4)
            else wSet (wVar 0) (wCst (.int 0)) (wOp opMod (wBlt intC (wCons (wOp opAdd (wOp opAdd (wOp opMul (wOp idxD (wVar 0) (wCst (.int 0))) (wCst (.int 69621))) (wOp opMul (wVar 3) (wCst (.int 48271)))) (wCst (.int 12345))) wNil)) (wCst (.int 2147483647))) { kkOf Q with nx := N } [some (.ref n), some (nt many), some (.int cs[c]), some (nt k), none, none] S1) := fun k => by
          refine i_pow ⟨by decide, by decide, by decide⟩ (i_ge ?_)
          walk_at "w"
          cases hk : decide ((10 : Int) ^ (18 : Int).toNat ≤ (k : Int)) with
          | true =>
            walk_at "w"
            refine i_set (j := 1) hA1.at_ rfl ?_
            exact hN _ _ ⟨⟨_, _, _, _, _, _, hA1.set (b' := k) (c' := c + 1) (e' := e) hA.small⟩, Only1.set.trans Only1.set, _, _, rfl⟩
          | false =>
            walk_at "w"
            refine i_ref hA1.at_ rfl (n_mulS (b := 69621) (by decide) (n_mulS (b := 48271) (by decide) (n_add (n_add (b := 12345) (c_int (n_mod (b := 2147483647) (by decide) ?_))))))
            refine i_set (j := 0) hA1.at_ rfl ?_
            exact hN _ _ ⟨⟨_, _, _, _, _, _, hA1.set (b' := b) (c' := c + 1) (e' := e) (Nat.mod_lt _ (by decide))⟩, Only1.set.trans Only1.set, _, _, rfl⟩
        refine i_ge ?_
        walk_at "w"
        cases hs : decide ((0 : Int) ≤ cs[c]) with
        | true =>
          walk_at "w"
          have e1 : D.int cs[c] = nt cs[c].toNat := by
            have := of_decide_eq_true hs
            show D.int cs[c] = D.int (cs[c].toNat : Int)
            rw [Int.toNat_of_nonneg this]
          have := fin cs[c].toNat
          rw [← e1] at this
          exact this
        | false =>
          walk_at "w"
          have e1 : D.int (-cs[c]) = nt (-cs[c]).toNat := by
            have := of_decide_eq_false hs
            show D.int (-cs[c]) = D.int ((-cs[c]).toNat : Int)
            rw [Int.toNat_of_nonneg (by omega)]
          have := fin (-cs[c]).toNat
          rw [← e1] at this
          exact this
      · rw [show decide (c < cs.length) = false by simp [hc]]
        exact skip
    · rw [show decide (b = 0) = false by simp [hb]]
      exact skip
  obtain ⟨hD1, ho, x, y, rfl⟩ := hI
  refine sq_cut (fun ρ S2 => S2 = S1 ∧ ρ = [some (.ref n), some (nt many), x, y, none, none]) (fun N hN => ?_) (fun ρ S2 hI => ?_)
  · obtain ⟨a, b, c, e, m, cs, hA⟩ := hD1
    walk_at "w"
    refine i_ref hA.at_ rfl (n_gt (a := b) (b := 0) ?_)
    walk_at "w"
    by_cases hb : 0 < b
    · rw [show decide (0 < b) = true by simp [hb]]
      walk_at "w"
      refine i_ref hA.at_ rfl (c_int (n_mod (by omega) ?_))
      refine i_ref hA.at_ rfl (n_div (by omega) hm (i_set (j := 1) hA.at_ rfl ?_))
      exact q _ _ (fun _ => Nat.mod_lt _ (by omega)) (fun z => by omega) ⟨_, _, _, _, _, _, hA.set (b' := b / many) (c' := c) (e' := e) hA.small⟩ (ho.trans Only1.set)
    · rw [show decide (0 < b) = false by simp [hb]]
      exact hN _ _ ⟨rfl, rfl⟩
  obtain ⟨rfl, rfl⟩ := hI
  obtain ⟨a, b, c, e, m, cs, hA⟩ := hD1
  walk_at "w"
  refine i_ref hA.at_ rfl (n_add (b := 1) (i_set (j := 3) hA.at_ rfl ?_))
  have hA1 := hA.set (b' := b) (c' := c) (e' := e + 1) hA.small
  refine i_ref hA1.at_ rfl (n_mulS (b := 48271) (by decide) (i_ref hA1.at_ rfl (n_mulS (b := 7919) (by decide) (n_add (n_add (b := 11) (c_int (n_mod (b := 2147483647) (by decide) (i_set (j := 0) hA1.at_ rfl ?_))))))))
  have hA2 := hA1.set (a' := (a * 48271 + (e + 1) * 7919 + 11) % 2147483647) (b' := b) (c' := c) (e' := e + 1) (Nat.mod_lt _ (by decide))
  refine i_ref hA2.at_ rfl (i_ref hA2.at_ rfl (n_mulS (Nat.lt_trans hA2.small (by decide)) (i_ref hA2.at_ rfl (n_add (c_int (n_mod (b := 2147483629) (by decide) ?_))))))
  refine n_div (b := 7) (by decide) (Nat.lt_of_lt_of_le (by decide : 7 < 2 ^ 3) (Nat.pow_le_pow_right (by decide) (by decide))) (c_int (n_mod (by omega) ?_))
  exact q _ _ (fun _ => Nat.mod_lt _ (by omega)) (fun z => by omega) ⟨_, _, _, _, _, _, hA2⟩ ((ho.trans Only1.set).trans Only1.set)
def sp_law_rare : Spec := fun ds S Q => ∃ n many : Nat, ds = [.ref n, nt many] ∧ DrawS S n ∧ many < 2 ^ 8999 ∧ ∀ (r : Bool) S', DrawS S' n → Only1 n S S' → Q (.bl r) S'
theorem good_law_rare : Good 2 2 (c_law_rare sp_law_draw) sp_law_rare := by
  intro ds S Q _ h
  obtain ⟨n, many, rfl, hD, hm, q⟩ := h
  show c_law_rare sp_law_draw (kkOf Q) [some (.ref n), some (nt many)] S
  unfold c_law_rare
  walk_at "w"
  refine callI rfl ⟨n, many, rfl, hD, hm, fun r S' h1 h2 h3 h4 => ?_⟩
  refine n_div (b := 2) (by decide) (Nat.lt_of_lt_of_le (by decide : 2 < 2 ^ 2) (Nat.pow_le_pow_right (by decide) (by decide))) (n_eq ?_)
  exact q _ _ h3 h4
end WW


set_option Elab.async false
set_option linter.all false
set_option maxRecDepth 100000
set_option maxHeartbeats 4000000
set_option autoImplicit false
namespace WW
open PySem PySem.Spec PyProof.Rows L2
local macro_rules | `(tactic| walk_at "w") => `(tactic| try dsimp only [en_2, ap_var, ap_cst, ap_op, ap_neg, ap_notV, ap_andV, ap_orV, ap_chain, ap_if, ap_nil, ap_cons, ap_tup, ap_lst, ap_noP, ap_part, ap_slc, ap_call, ap_callX, ap_blt, ap_isi, ap_or, ap_lstR, ap_tupR, ap_dct, ap_fld, ap_mth, ap_mak, ap_fset, ap_forN, ap_met, ap_bits, ap_tst, ap_tsB, ap_notB, ap_andB, ap_orB, ap_yes, ap_lc, ap_sset, ap_asg, ap_asgP, ap_set, ap_drop, ap_ret, ap_retN, ap_brk, ap_cnt, ap_pas, ap_sq, ap_ifS, ap_for, ap_seqI, ap_rng, ap_enum, look, putR, kkOf, rd_int, rd_bl, rd_T, rd_F, rd_nm, rd_tp, rd_nil, rd_cons, rd_gv, rd_trB, rd_srcT, rd_rng1, rd_rng2, rd_notT, rd_notF, rd_wp0, rd_wp1, rd_rg1, rd_rg2, ty_non, ty_bl, ty_int, ty_str, ty_tup, isiB])
/- _law_lot(headers): slots headers=0 lot=1 header=2 -/
def c_law_lot_1 : WS :=
  (wAsg 1 (wOp opOr (wVar 1) (wOp opShl (wCst (.int 1)) (wVar 2))))
def c_law_lot : WS :=
  (wSq (wAsg 1 (wCst (.int 0)))
  (wSq (wForN 0 (.nm 2) c_law_lot_1)
  (wRet (wVar 1))))

/- _law_cube(d, bits): slots d=0 bits=1 care=2 -/
def c_law_cube (p_law_draw : Spec) : WS :=
  (wSq (wAsg 2 (wCall 2 p_law_draw (wCons (wVar 0) (wCons (wOp opShl (wCst (.int 1)) (wVar 1)) wNil))))
  (wRet (wTup (wCons (wVar 2) (wCons (wOp opAnd (wCall 2 p_law_draw (wCons (wVar 0) (wCons (wOp opShl (wCst (.int 1)) (wVar 1)) wNil))) (wVar 2)) wNil)))))


theorem ofL_snoc (hs : List Nat) (h : Nat) : ofL (hs ++ [h]) = ofL hs ||| 2 ^ h := by
  apply bit_ext
  intro i
  rw [Nat.testBit_or, ofL_bit, ofL_bit, bit_two_pow, Bool.eq_iff_iff]
  simp only [List.mem_append, List.mem_singleton, Bool.or_eq_true, decide_eq_true_eq]
  constructor
  · rintro (q | q)
    · exact .inl q
    · exact .inr q.symm
  · rintro (q | q)
    · exact .inl q
    · exact .inr q.symm

theorem take_succ {α : Type} {l : List α} {i : Nat} {x : α} (h : l[i]? = some x) : l.take (i + 1) = l.take i ++ [x] := by
  rw [List.take_add_one, h]
  rfl

theorem pow_big {k n : Nat} (h : k ≤ n) (hn : n ≤ 8999) : 2 ^ k ≤ 2 ^ 8999 := Nat.pow_le_pow_right (by decide) (by omega)
theorem lt_big {k n : Nat} (h : k < 2 ^ n) (hn : n ≤ 8999) : k < 2 ^ 8999 := Nat.lt_of_lt_of_le h (Nat.pow_le_pow_right (by decide) hn)

theorem draw_lt {r m : Nat} (h1 : 2 ≤ m → r < m) (h2 : m < 2 → r = 0) (h0 : 1 ≤ m) : r < m := by
  by_cases h : 2 ≤ m
  · exact h1 h
  · rw [h2 (by omega)]; exact h0
theorem and_and (a b : Nat) : (a &&& b) &&& b = a &&& b := by
  rw [Nat.and_assoc, Nat.and_self]

/-- ascending lists of headers that a comprehension over range(2^w) makes -/
def Asc (hs : List Nat) (k : Nat) : Prop := hs.Pairwise (· < ·) ∧ ∀ h ∈ hs, h < k
theorem Asc.nil (k : Nat) : Asc [] k := ⟨List.Pairwise.nil, fun _ h => nomatch h⟩
theorem Asc.snoc {hs : List Nat} {k : Nat} (h : Asc hs k) : Asc (hs ++ [k]) (k + 1) := by
  refine ⟨List.pairwise_append.mpr ⟨h.1, by simp, fun a ha b hb => ?_⟩, fun x hx => ?_⟩
  · rw [List.mem_singleton] at hb
    subst hb
    exact h.2 a ha
  · rcases List.mem_append.mp hx with q | q
    · exact Nat.lt_succ_of_lt (h.2 x q)
    · rw [List.mem_singleton] at q
      omega
theorem Asc.up {hs : List Nat} {k : Nat} (h : Asc hs k) : Asc hs (k + 1) := ⟨h.1, fun x hx => Nat.lt_succ_of_lt (h.2 x hx)⟩
theorem Asc.len {hs : List Nat} {k : Nat} (h : Asc hs k) : hs.length ≤ k := by
  have e : hdrs k (ofL hs) = hs := hdrs_ofL h.1 h.2
  rw [← e]
  exact hdrs_len_le _ _
theorem cube_list {c v w : Nat} (hc : c < 2 ^ w) (hv : v &&& c = v) : lotN c v w = ofL ((List.range (2 ^ w)).filter fun h => decide (h &&& c = v)) := bit_ext fun i => by
  rw [lot_bit hc hv, ofL_bit, Bool.eq_iff_iff]
  simp only [Bool.and_eq_true, decide_eq_true_eq, List.mem_filter, List.mem_range]
theorem filter_asc (k : Nat) (p : Nat → Bool) : Asc ((List.range k).filter p) k :=
  ⟨List.Pairwise.filter _ List.pairwise_lt_range, fun h hm => List.mem_range.mp (List.mem_filter.mp hm).1⟩
theorem filter_snoc (k : Nat) (p : Nat → Bool) : (List.range (k + 1)).filter p = (List.range k).filter p ++ if p k = true then [k] else [] := by
  rw [List.range_succ, List.filter_append]
  congr 1
  by_cases h : p k = true
  · simp [h]
  · simp [h]
theorem one_lot {h w : Nat} (hh : h < 2 ^ w) : lotN (2 ^ w - 1) h w = 2 ^ h := by
  have hm : h &&& (2 ^ w - 1) = h := by rw [Nat.and_two_pow_sub_one_eq_mod, Nat.mod_eq_of_lt hh]
  apply bit_ext
  intro i
  have hp := Nat.two_pow_pos w
  rw [lot_bit (by omega) hm, bit_two_pow, Bool.eq_iff_iff]
  simp only [Bool.and_eq_true, decide_eq_true_eq]
  constructor
  · rintro ⟨a, b⟩
    rw [Nat.and_two_pow_sub_one_eq_mod, Nat.mod_eq_of_lt a] at b
    exact b.symm
  · rintro rfl
    exact ⟨hh, hm⟩
theorem all_as_lot (w : Nat) : lotN 0 0 w = allN w := bit_ext fun i => by
  rw [lot_bit (Nat.two_pow_pos w) rfl, all_bit]
  simp
theorem count_all (w : Nat) : (hdrs (2 ^ w) (allN w)).length = 2 ^ w := by
  unfold hdrs
  rw [List.filter_eq_self.mpr fun a ha => by rw [all_bit]; exact decide_eq_true (List.mem_range.mp ha), List.length_range]
theorem sz_pow {l w : Nat} (h : l ≤ 2 ^ w) (hw : w ≤ 13) : l < sizeLine := sz_of' (by have := pow13 hw; omega)

def sp_law_lot : Spec := fun ds S Q => ∃ (n : Nat) (hs : List Nat), ds = [.ref n] ∧ S[n]? = some (.lst (hs.map nt)) ∧ (∀ h ∈ hs, h < 8192) ∧ Q (nt (ofL hs)) S
theorem good_law_lot : Good 3 1 c_law_lot sp_law_lot := by
  intro ds S Q _ h
  obtain ⟨n, hs, rfl, hn, hb, q⟩ := h
  show c_law_lot (kkOf Q) [some (.ref n), none, none] S
  unfold c_law_lot
  walk_at "w"
  refine .inl ⟨_, hn, ?_⟩
  walk_at "w"
  refine forI (fun i ρ S' => S' = S ∧ ∃ x, ρ = [some (.ref n), some (nt (ofL (hs.take i))), x]) ⟨rfl, none, rfl⟩ (fun i d ρ S' N hd hI hN => ?_) (fun ρ S' hI => ?_)
  · obtain ⟨rfl, x, rfl⟩ := hI
    refine ⟨hn, ?_⟩
    rw [List.getElem?_map] at hd
    cases hx : hs[i]? with
    | none => rw [hx] at hd; cases hd
    | some h =>
      rw [hx] at hd
      cases hd
      walk_at "w"
      unfold c_law_lot_1
      walk_at "w"
      have hm : h ∈ hs := List.mem_of_getElem? hx
      have := hb h hm
      refine n_shl1 (by omega) (n_or ?_)
      exact hN _ _ ⟨rfl, some (nt h), by rw [take_succ hx, ofL_snoc]⟩
  · obtain ⟨rfl, x, rfl⟩ := hI
    refine ⟨hn, ?_⟩
    rw [List.length_map, List.take_length]
    exact q
def sp_law_cube : Spec := fun ds S Q => ∃ n bits : Nat, ds = [.ref n, nt bits] ∧ DrawS S n ∧ bits ≤ 13 ∧ ∀ (c v : Nat) S', c < 2 ^ bits → v &&& c = v → DrawS S' n → Only1 n S S' → Q (.tup [nt c, nt v]) S'
theorem good_law_cube : Good 3 2 (c_law_cube sp_law_draw) sp_law_cube := by
  intro ds S Q _ h
  obtain ⟨n, bits, rfl, hD, hb, q⟩ := h
  show c_law_cube sp_law_draw (kkOf Q) [some (.ref n), some (nt bits), none] S
  unfold c_law_cube
  walk_at "w"
  have hp := Nat.two_pow_pos bits
  have hl : 2 ^ bits < 2 ^ 8999 := Nat.pow_lt_pow_right (by decide) (by omega)
  refine n_shl1 (by omega) (callI rfl ⟨n, _, rfl, hD, hl, fun c S1 h1 h2 h3 h4 => ?_⟩)
  refine n_shl1 (by omega) (callI rfl ⟨n, _, rfl, h3, hl, fun v S2 g1 g2 g3 g4 => ?_⟩)
  refine n_and ⟨by show 2 ≤ sizeLine; decide, ?_⟩
  exact q _ _ _ (draw_lt h1 h2 hp) (and_and v c) g3 (h4.trans g4)

end WW


set_option autoImplicit false
set_option linter.all false
namespace WW
/-! ### settings -/
def putN (h c v : Nat) : Nat := h - (h &&& c) + v
theorem nat_bits {a b : Nat} : a = b ↔ ∀ i, a.testBit i = b.testBit i := ⟨fun h i => by rw [h], bit_ext⟩
theorem sub_and (h c : Nat) : (h &&& c) ≤ h ∧ ∀ i, (h - (h &&& c)).testBit i = (h.testBit i && !c.testBit i) := by
  obtain ⟨h1, h2⟩ := bit_sub (a := h) (b := h &&& c) fun i e => by
    rw [Nat.testBit_and] at e
    exact (Bool.and_eq_true_iff.mp e).1
  refine ⟨h1, fun i => ?_⟩
  rw [h2, Nat.testBit_and]
  cases h.testBit i <;> cases c.testBit i <;> rfl
theorem sub_bits {v c : Nat} (hv : v &&& c = v) (i : Nat) : v.testBit i = true → c.testBit i = true := fun e => by
  have := nat_bits.mp hv i
  rw [Nat.testBit_and, e] at this
  simpa using this
theorem put_bit {h c v : Nat} (hv : v &&& c = v) (i : Nat) : (putN h c v).testBit i = bif c.testBit i then v.testBit i else h.testBit i := by
  unfold putN
  have s := sub_bits hv
  rw [bit_add (fun j => by
    rw [(sub_and h c).2]
    have := s j
    cases hc : c.testBit j <;> cases hvj : v.testBit j <;> cases h.testBit j <;> simp_all), (sub_and h c).2]
  have := s i
  cases hc : c.testBit i <;> cases hvj : v.testBit i <;> cases h.testBit i <;> simp_all
theorem put_lt {h c v w : Nat} (hv : v &&& c = v) (hc : c < 2 ^ w) (hh : h < 2 ^ w) : putN h c v < 2 ^ w := lt_of_bits fun i hi => by
  rw [put_bit hv, bit_lt hc hi, bit_lt hh hi]
  rfl
theorem and_eq {h c v : Nat} : h &&& c = v ↔ ∀ i, (h.testBit i && c.testBit i) = v.testBit i := by
  rw [nat_bits]
  constructor
  · intro q i
    rw [← Nat.testBit_and, q i]
  · intro q i
    rw [Nat.testBit_and, q i]
theorem and_sub {a b c : Nat} : (a &&& (b &&& c)) &&& b = a &&& (b &&& c) := by
  rw [nat_bits]
  intro i
  simp only [Nat.testBit_and]
  cases a.testBit i <;> cases b.testBit i <;> cases c.testBit i <;> rfl
/-! fits -/
theorem fits_none {c v sc sv : Nat} (hv : v &&& c = v) (hs : sv &&& sc = sv) (hne : v &&& (c &&& sc) ≠ sv &&& (c &&& sc)) (h : Nat) : putN h sc sv &&& c ≠ v := fun e => hne (by
  rw [and_eq] at e
  rw [nat_bits]
  intro i
  have := e i
  rw [put_bit hs] at this
  have := sub_bits hv i
  simp only [Nat.testBit_and]
  cases hc : c.testBit i <;> cases hsc : sc.testBit i <;> simp_all)
theorem fits_some {c v sc sv : Nat} (hv : v &&& c = v) (hs : sv &&& sc = sv) (he : v &&& (c &&& sc) = sv &&& (c &&& sc)) (h : Nat) : putN h sc sv &&& c = v ↔ h &&& (c - (c &&& sc)) = v &&& (c - (c &&& sc)) := by
  rw [and_eq, and_eq]
  rw [nat_bits] at he
  refine forall_congr' fun i => ?_
  have e := he i
  have b1 := sub_bits hv i
  have b2 := sub_bits hs i
  rw [put_bit hs, Nat.testBit_and, (sub_and c sc).2]
  simp only [Nat.testBit_and] at e
  cases hc : c.testBit i <;> cases hsc : sc.testBit i <;> cases hvi : v.testBit i <;> cases hsv : sv.testBit i <;> cases h.testBit i <;> simp_all
/-! agree -/
theorem agree_none {c v d u : Nat} (hv : v &&& c = v) (hu : u &&& d = u) (hne : (v ^^^ u) &&& c &&& d ≠ 0) (h : Nat) : putN h c v ≠ putN h d u := fun e => hne (by
  rw [nat_bits] at e ⊢
  intro i
  have := e i
  rw [put_bit hv, put_bit hu] at this
  simp only [Nat.testBit_and, Nat.testBit_xor, Nat.zero_testBit]
  cases hc : c.testBit i <;> cases hd : d.testBit i <;> cases hvi : v.testBit i <;> cases hui : u.testBit i <;> simp_all)
theorem agree_some {c v d u : Nat} (hv : v &&& c = v) (hu : u &&& d = u) (he : (v ^^^ u) &&& c &&& d = 0) (h : Nat) : putN h c v = putN h d u ↔ h &&& (c ^^^ d) = (v ||| u) &&& (c ^^^ d) := by
  rw [and_eq, nat_bits]
  rw [nat_bits] at he
  refine forall_congr' fun i => ?_
  have e := he i
  have b1 := sub_bits hv i
  have b2 := sub_bits hu i
  rw [put_bit hv, put_bit hu]
  simp only [Nat.testBit_and, Nat.testBit_xor, Nat.testBit_or, Nat.zero_testBit] at e ⊢
  cases hc : c.testBit i <;> cases hd : d.testBit i <;> cases hvi : v.testBit i <;> cases hui : u.testBit i <;> cases h.testBit i <;> simp_all
/-! origin: the headers of which a setting makes one of the lot; below bit k the setting is done, above it must fit -/
def low (k c : Nat) : Nat := c &&& (2 ^ k - 1)
theorem low_bit (k c i : Nat) : (low k c).testBit i = (c.testBit i && decide (i < k)) := by
  unfold low
  rw [Nat.testBit_and, Nat.testBit_two_pow_sub_one]
theorem low_sub {k c v : Nat} (hv : v &&& c = v) : low k v &&& low k c = low k v := by
  rw [nat_bits]
  intro i
  have := sub_bits hv i
  rw [Nat.testBit_and, low_bit, low_bit]
  cases hc : c.testBit i <;> cases hvi : v.testBit i <;> cases decide (i < k) <;> simp_all
theorem low_all {w c : Nat} (h : c < 2 ^ w) : low w c = c := by
  rw [nat_bits]
  intro i
  rw [low_bit]
  by_cases hi : i < w
  · simp [hi]
  · rw [bit_lt h (Nat.le_of_not_lt hi)]
    rfl
theorem low_zero (c : Nat) : low 0 c = 0 := by
  rw [nat_bits]
  intro i
  rw [low_bit]
  simp
/-- from bit k on the header fits -/
def fitA (c v w k h : Nat) : Bool := (List.range w).all fun b => decide (b < k) || !c.testBit b || (h.testBit b == v.testBit b)
theorem fitA_iff {c v w k h : Nat} : fitA c v w k h = true ↔ ∀ b, b < w → k ≤ b → c.testBit b = true → h.testBit b = v.testBit b := by
  unfold fitA
  rw [List.all_eq_true]
  constructor
  · intro q b hb hk hc
    have := q b (List.mem_range.mpr hb)
    rw [hc, decide_eq_false (by omega : ¬ b < k)] at this
    simpa using this
  · intro q b hb
    by_cases hk : b < k
    · simp [hk]
    · cases hc : c.testBit b with
      | false => simp
      | true =>
        rw [q b (List.mem_range.mp hb) (by omega) hc]
        simp
def orgK (L c v w k : Nat) : Nat := mk (2 ^ w) fun h => L.testBit (putN h (low k c) (low k v)) && fitA c v w k h
theorem org_bit (L c v w k h : Nat) : (orgK L c v w k).testBit h = (decide (h < 2 ^ w) && (L.testBit (putN h (low k c) (low k v)) && fitA c v w k h)) := mk_bit ..
theorem org_zero {L c v w : Nat} : L &&& lotN c v w = orgK L c v w 0 := by
  rw [nat_bits]
  intro h
  rw [Nat.testBit_and, org_bit]
  unfold lotN
  rw [lotK_bit]
  have e : putN h (low 0 c) (low 0 v) = h := by
    rw [low_zero, low_zero]
    unfold putN
    simp
  have f : fitA c v w 0 h = fitB c v w h := by
    rw [Bool.eq_iff_iff, fitA_iff, fitB_iff]
    exact ⟨fun q b hb hc => q b hb (Nat.zero_le _) hc, fun q b hb _ hc => q b hb hc⟩
  rw [e, f]
  cases decide (h < 2 ^ w) <;> cases L.testBit h <;> simp
theorem org_end {L c v w : Nat} (hc : c < 2 ^ w) (hv : v < 2 ^ w) (h : Nat) : (orgK L c v w w).testBit h = (decide (h < 2 ^ w) && L.testBit (putN h c v)) := by
  rw [org_bit, low_all hc, low_all hv]
  have f : fitA c v w w h = true := by
    rw [fitA_iff]
    intro b hb hk
    omega
  rw [f, Bool.and_true]
/-- the header with bit k as the value says -/
theorem put_low_same {h c v k : Nat} (hv : v &&& c = v) (hc : c.testBit k = true) (hb : h.testBit k = v.testBit k) : putN h (low (k + 1) c) (low (k + 1) v) = putN h (low k c) (low k v) := by
  rw [nat_bits]
  intro i
  rw [put_bit (low_sub hv), put_bit (low_sub hv)]
  simp only [low_bit]
  by_cases e : i = k
  · subst e
    simp [hc, hb]
  · have : decide (i < k + 1) = decide (i < k) := by rw [decide_eq_decide]; omega
    rw [this]
theorem put_low_no {h c v k : Nat} (hv : v &&& c = v) (hc : c.testBit k = false) : putN h (low (k + 1) c) (low (k + 1) v) = putN h (low k c) (low k v) := by
  have hvk : v.testBit k = false := by
    cases hv' : v.testBit k with
    | false => rfl
    | true => rw [sub_bits hv k hv'] at hc; cases hc
  rw [nat_bits]
  intro i
  rw [put_bit (low_sub hv), put_bit (low_sub hv)]
  simp only [low_bit]
  by_cases e : i = k
  · subst e
    simp [hc]
  · have : decide (i < k + 1) = decide (i < k) := by rw [decide_eq_decide]; omega
    rw [this]
theorem fitA_succ {c v w k h : Nat} (hk : k < w) : fitA c v w k h = (fitA c v w (k + 1) h && (!c.testBit k || (h.testBit k == v.testBit k))) := by
  rw [Bool.eq_iff_iff, Bool.and_eq_true_iff, fitA_iff, fitA_iff]
  constructor
  · intro q
    refine ⟨fun b hb h1 hc => q b hb (by omega) hc, ?_⟩
    cases hc : c.testBit k with
    | false => rfl
    | true =>
      rw [q k hk (Nat.le_refl _) hc]
      simp
  · rintro ⟨q1, q2⟩ b hb h1 hc
    by_cases e : b = k
    · subst e
      rw [hc] at q2
      simpa using q2
    · exact q1 b hb (by omega) hc
/-- a header and its flip at bit k -/
theorem flip_up {h k : Nat} (hb : h.testBit k = false) (i : Nat) (hi : i ≠ k) : (h + 2 ^ k).testBit i = h.testBit i := by
  rw [bit_give hb]
  simp [Ne.symm hi]
theorem flip_dn {h k : Nat} (hb : h.testBit k = true) (i : Nat) (hi : i ≠ k) : (h - 2 ^ k).testBit i = h.testBit i := by
  rw [bit_take hb]
  simp [Ne.symm hi]
theorem fitA_flip {c v w k h g : Nat} (e : ∀ i, i ≠ k → g.testBit i = h.testBit i) : fitA c v w (k + 1) g = fitA c v w (k + 1) h := by
  rw [Bool.eq_iff_iff, fitA_iff, fitA_iff]
  constructor
  · intro q b hb h1 hc
    rw [← e b (by omega)]
    exact q b hb h1 hc
  · intro q b hb h1 hc
    rw [e b (by omega)]
    exact q b hb h1 hc
theorem put_flip {c v k h g : Nat} (hv : v &&& c = v) (hc : c.testBit k = true) (e : ∀ i, i ≠ k → g.testBit i = h.testBit i) : putN g (low (k + 1) c) (low (k + 1) v) = putN h (low (k + 1) c) (low (k + 1) v) := by
  rw [nat_bits]
  intro i
  rw [put_bit (low_sub hv), put_bit (low_sub hv)]
  by_cases hi : i = k
  · subst hi
    simp [low_bit, hc]
  · rw [e i hi]
theorem lt_flip {k w h g : Nat} (hk : k < w) (e : ∀ i, i ≠ k → g.testBit i = h.testBit i) (hh : h < 2 ^ w) : g < 2 ^ w := lt_of_bits fun i hi => by
  rw [e i (by omega)]
  exact bit_lt hh hi
theorem org_no {L c v w k : Nat} (hv : v &&& c = v) (hk : k < w) (hc : c.testBit k = false) : orgK L c v w k = orgK L c v w (k + 1) := by
  rw [nat_bits]
  intro h
  rw [org_bit, org_bit, put_low_no hv hc, fitA_succ hk, hc]
  simp
theorem org_one {L c v w k : Nat} (hv : v &&& c = v) (hk : k < w) (hc : c.testBit k = true) (hvk : v.testBit k = true) : orgK L c v w k ||| orgK L c v w k >>> 2 ^ k = orgK L c v w (k + 1) := by
  rw [nat_bits]
  intro h
  rw [Nat.testBit_or, Nat.testBit_shiftRight, Nat.add_comm (2 ^ k) h, org_bit, org_bit, org_bit, fitA_succ hk, fitA_succ (h := h + 2 ^ k) hk, hc, hvk]
  cases hb : h.testBit k with
  | true =>
    have h2 : (h + 2 ^ k).testBit k = false := by
      rw [Nat.add_comm, Nat.testBit_two_pow_add_eq, hb]
      rfl
    rw [h2, put_low_same hv hc (by rw [hb, hvk])]
    simp
  | false =>
    have h2 : (h + 2 ^ k).testBit k = true := by rw [bit_give hb]; simp
    have hp := Nat.two_pow_pos k
    have h3 := flip_up hb
    have h4 : decide (h + 2 ^ k < 2 ^ w) = decide (h < 2 ^ w) := by
      rw [decide_eq_decide]
      exact ⟨fun q => by omega, fun q => lt_flip hk h3 q⟩
    rw [h2, ← put_low_same (h := h + 2 ^ k) hv hc (by rw [h2, hvk]), put_flip hv hc h3, fitA_flip h3, h4]
    simp
theorem org_nul {L c v w k : Nat} (hv : v &&& c = v) (hk : k < w) (hc : c.testBit k = true) (hvk : v.testBit k = false) : orgK L c v w k ||| orgK L c v w k * 2 ^ 2 ^ k = orgK L c v w (k + 1) := by
  rw [nat_bits]
  intro h
  rw [Nat.testBit_or, Nat.testBit_mul_two_pow, org_bit, org_bit, org_bit, fitA_succ hk, fitA_succ (h := h - 2 ^ k) hk, hc, hvk]
  cases hb : h.testBit k with
  | true =>
    have h1 : 2 ^ k ≤ h := bit_low hb
    have hp := Nat.two_pow_pos k
    have h2 : (h - 2 ^ k).testBit k = false := by rw [bit_take hb]; simp
    have h3 := flip_dn hb
    have h4 : decide (h - 2 ^ k < 2 ^ w) = decide (h < 2 ^ w) := by
      rw [decide_eq_decide]
      exact ⟨fun q => lt_flip hk (fun i hi => (h3 i hi).symm) q, fun q => by omega⟩
    rw [h2, ← put_low_same (h := h - 2 ^ k) hv hc (by rw [h2, hvk]), put_flip hv hc h3, fitA_flip h3, h4]
    simp [h1]
  | false =>
    by_cases h1 : 2 ^ k ≤ h
    · have h2 : (h - 2 ^ k).testBit k = true := by
        have := Nat.testBit_two_pow_add_eq (h - 2 ^ k) k
        rw [show 2 ^ k + (h - 2 ^ k) = h by omega, hb] at this
        simpa using this
      rw [h2, put_low_same hv hc (by rw [hb, hvk])]
      simp
    · rw [put_low_same hv hc (by rw [hb, hvk])]
      simp [h1]
end WW


set_option autoImplicit false
set_option linter.all false
namespace WW
/-! ### the cubes of a lot, by halves -/
def cubesL : Nat → Nat → List (Nat × Nat)
  | 0, L => if L = 0 then [] else [(0, 0)]
  | w + 1, L => if L = 0 then [] else if L &&& allN w = L >>> 2 ^ w then cubesL w (L &&& allN w) else
      (cubesL w (L &&& allN w)).map (fun p => (p.1 ||| 2 ^ w, p.2)) ++ (cubesL w (L >>> 2 ^ w)).map fun p => (p.1 ||| 2 ^ w, p.2 ||| 2 ^ w)
theorem lo_bit {L w h : Nat} : (L &&& allN w).testBit h = (decide (h < 2 ^ w) && L.testBit h) := by
  rw [Nat.testBit_and, all_bit, Bool.and_comm]
theorem hi_bit {L w h : Nat} : (L >>> 2 ^ w).testBit h = L.testBit (2 ^ w + h) := Nat.testBit_shiftRight ..
theorem allN_lt (w : Nat) : allN w < 2 ^ 2 ^ w := by
  unfold allN
  have := Nat.two_pow_pos (2 ^ w)
  omega
theorem lo_lt {L w : Nat} : L &&& allN w < 2 ^ 2 ^ w := Nat.lt_of_le_of_lt Nat.and_le_right (allN_lt w)
theorem hi_lt {L w : Nat} (h : L < 2 ^ 2 ^ (w + 1)) : L >>> 2 ^ w < 2 ^ 2 ^ w := by
  rw [Nat.shiftRight_eq_div_pow, Nat.div_lt_iff_lt_mul (Nat.two_pow_pos _), ← Nat.pow_add]
  have e : 2 ^ w + 2 ^ w = 2 ^ (w + 1) := by rw [Nat.pow_succ]; omega
  rw [e]
  exact h
theorem cubes_ok : ∀ (w L : Nat), ∀ p ∈ cubesL w L, p.1 < 2 ^ w ∧ p.2 &&& p.1 = p.2
  | 0, L, p, h => by
    unfold cubesL at h
    split at h
    · cases h
    · rw [List.mem_singleton] at h
      subst h
      exact ⟨by decide, rfl⟩
  | w + 1, L, p, h => by
    have e : 2 ^ (w + 1) = 2 ^ w + 2 ^ w := by rw [Nat.pow_succ]; omega
    have hp := Nat.two_pow_pos w
    have up : ∀ a, a < 2 ^ w → a ||| 2 ^ w < 2 ^ (w + 1) := fun a ha => Nat.or_lt_two_pow (by omega) (by omega)
    unfold cubesL at h
    split at h
    · cases h
    split at h
    · obtain ⟨a, b⟩ := cubes_ok w _ p h
      exact ⟨by omega, b⟩
    · rcases List.mem_append.mp h with h | h
      · obtain ⟨q, hq, rfl⟩ := List.mem_map.mp h
        obtain ⟨a, b⟩ := cubes_ok w _ q hq
        refine ⟨up _ a, ?_⟩
        show q.2 &&& (q.1 ||| 2 ^ w) = q.2
        rw [Nat.and_or_distrib_left, b]
        have : q.2 < 2 ^ w := by rw [← b]; exact Nat.lt_of_le_of_lt Nat.and_le_right a
        refine bit_ext fun i => ?_
        rw [Nat.testBit_or, Nat.testBit_and, bit_two_pow]
        cases hb : q.2.testBit i <;> simp
      · obtain ⟨q, hq, rfl⟩ := List.mem_map.mp h
        obtain ⟨a, b⟩ := cubes_ok w _ q hq
        refine ⟨up _ a, ?_⟩
        show (q.2 ||| 2 ^ w) &&& (q.1 ||| 2 ^ w) = q.2 ||| 2 ^ w
        have b' := nat_bits.mp b
        refine bit_ext fun i => ?_
        have := b' i
        rw [Nat.testBit_and] at this
        simp only [Nat.testBit_or, Nat.testBit_and, bit_two_pow]
        cases h1 : q.2.testBit i <;> cases h2 : q.1.testBit i <;> simp_all
theorem cubes_len : ∀ (w L : Nat), (cubesL w L).length ≤ 2 ^ w
  | 0, L => by unfold cubesL; split <;> simp
  | w + 1, L => by
    have e : 2 ^ (w + 1) = 2 ^ w + 2 ^ w := by rw [Nat.pow_succ]; omega
    unfold cubesL
    split
    · simp
    split
    · have := cubes_len w (L &&& allN w)
      omega
    · rw [List.length_append, List.length_map, List.length_map]
      have := cubes_len w (L &&& allN w)
      have := cubes_len w (L >>> 2 ^ w)
      omega
def inC (h : Nat) (p : Nat × Nat) : Bool := decide (h &&& p.1 = p.2)
theorem filter_map_inC {h : Nat} {l : List (Nat × Nat)} {f : Nat × Nat → Nat × Nat} {g : Nat} (e : ∀ p ∈ l, inC h (f p) = inC g p) : ((l.map f).filter (inC h)).length = (l.filter (inC g)).length := by
  induction l with
  | nil => rfl
  | cons p r ih =>
    rw [List.map_cons, List.filter_cons, List.filter_cons, e p List.mem_cons_self]
    have := ih fun q hq => e q (List.mem_cons_of_mem _ hq)
    split
    · rw [List.length_cons, List.length_cons, this]
    · exact this
theorem filter_none {h : Nat} {l : List (Nat × Nat)} {f : Nat × Nat → Nat × Nat} (e : ∀ p ∈ l, inC h (f p) = false) : ((l.map f).filter (inC h)).length = 0 := by
  induction l with
  | nil => rfl
  | cons p r ih =>
    rw [List.map_cons, List.filter_cons, e p List.mem_cons_self]
    exact ih fun q hq => e q (List.mem_cons_of_mem _ hq)
theorem filter_same {h g : Nat} {l : List (Nat × Nat)} (e : ∀ p ∈ l, inC h p = inC g p) : (l.filter (inC h)).length = (l.filter (inC g)).length := by
  have := filter_map_inC (f := id) e
  rwa [List.map_id] at this
/-- the header without bit w -/
theorem low_and {h w a : Nat} (ha : a < 2 ^ w) : h &&& a = (h % 2 ^ w) &&& a := bit_ext fun i => by
  rw [Nat.testBit_and, Nat.testBit_and, Nat.testBit_mod_two_pow]
  by_cases hi : i < w
  · simp [hi]
  · rw [bit_lt ha (by omega)]
    simp
theorem split_bit {h w : Nat} : h.testBit w = true → 2 ^ w ≤ h := bit_low
theorem top_bit {h w : Nat} (hh : h < 2 ^ (w + 1)) : h.testBit w = decide (2 ^ w ≤ h) := by
  rw [Bool.eq_iff_iff, decide_eq_true_eq]
  refine ⟨bit_low, fun q => ?_⟩
  rw [Nat.testBit_eq_decide_div_mod_eq]
  have e : 2 ^ (w + 1) = 2 ^ w + 2 ^ w := by rw [Nat.pow_succ]; omega
  have : h / 2 ^ w = 1 := by
    rw [Nat.div_eq_iff (Nat.two_pow_pos w)]
    omega
  rw [this]
  rfl
theorem inC_up {h w : Nat} {p : Nat × Nat} (hh : h < 2 ^ (w + 1)) (h1 : p.1 < 2 ^ w) (h2 : p.2 &&& p.1 = p.2) :
    inC h (p.1 ||| 2 ^ w, p.2) = (!decide (2 ^ w ≤ h) && inC (h % 2 ^ w) p) ∧ inC h (p.1 ||| 2 ^ w, p.2 ||| 2 ^ w) = (decide (2 ^ w ≤ h) && inC (h % 2 ^ w) p) := by
  have h3 : p.2 < 2 ^ w := by rw [← h2]; exact Nat.lt_of_le_of_lt Nat.and_le_right h1
  have tb := top_bit hh
  have l1 := low_and (h := h) h1
  have two : ∀ i, (h &&& (p.1 ||| 2 ^ w)).testBit i = ((h &&& p.1).testBit i || (h.testBit i && decide (w = i))) := fun i => by
    simp only [Nat.testBit_and, Nat.testBit_or, bit_two_pow]
    cases h.testBit i <;> cases p.1.testBit i <;> simp
  have aw : (h &&& p.1).testBit w = false := by
    rw [Nat.testBit_and, bit_lt h1 (Nat.le_refl _), Bool.and_false]
  have pw : p.2.testBit w = false := bit_lt h3 (Nat.le_refl _)
  unfold inC
  rw [← tb]
  constructor
  · rw [Bool.eq_iff_iff]
    simp only [Bool.and_eq_true, Bool.not_eq_true', decide_eq_true_eq]
    rw [← l1]
    constructor
    · intro q
      have q' := nat_bits.mp q
      have hw := q' w
      rw [two, aw, pw] at hw
      simp at hw
      refine ⟨hw, bit_ext fun i => ?_⟩
      have := q' i
      rw [two] at this
      by_cases e : w = i
      · subst e; rw [aw, pw]
      · simpa [e] using this
    · rintro ⟨hw, q⟩
      refine bit_ext fun i => ?_
      rw [two]
      by_cases e : w = i
      · subst e; rw [aw, pw, hw]; rfl
      · rw [← q]; simp [e]
  · rw [Bool.eq_iff_iff]
    simp only [Bool.and_eq_true, decide_eq_true_eq]
    rw [← l1]
    have rw2 : ∀ i, (p.2 ||| 2 ^ w).testBit i = (p.2.testBit i || decide (w = i)) := fun i => by rw [Nat.testBit_or, bit_two_pow]
    constructor
    · intro q
      have q' := nat_bits.mp q
      have hw := q' w
      rw [two, aw, rw2, pw] at hw
      simp at hw
      refine ⟨hw, bit_ext fun i => ?_⟩
      have := q' i
      rw [two, rw2] at this
      by_cases e : w = i
      · subst e; rw [aw, pw]
      · simpa [e] using this
    · rintro ⟨hw, q⟩
      refine bit_ext fun i => ?_
      rw [two, rw2]
      by_cases e : w = i
      · subst e; rw [aw, pw, hw]; rfl
      · rw [← q]; simp [e]
theorem cubes_count : ∀ (w L h : Nat), L < 2 ^ 2 ^ w → h < 2 ^ w → ((cubesL w L).filter (inC h)).length = (L.testBit h).toNat
  | 0, L, h, hL, hh => by
    have h0 : h = 0 := by omega
    subst h0
    unfold cubesL
    split
    · rename_i e; subst e; rfl
    · rename_i e
      have : L = 1 := by
        have : L < 2 := hL
        omega
      subst this
      rfl
  | w + 1, L, h, hL, hh => by
    have e2 : 2 ^ (w + 1) = 2 ^ w + 2 ^ w := by rw [Nat.pow_succ]; omega
    have hp := Nat.two_pow_pos w
    have hm : h % 2 ^ w < 2 ^ w := Nat.mod_lt _ hp
    have c1 := cubes_count w (L &&& allN w) (h % 2 ^ w) lo_lt hm
    have c2 := cubes_count w (L >>> 2 ^ w) (h % 2 ^ w) (hi_lt hL) hm
    rw [lo_bit, decide_eq_true hm, Bool.true_and] at c1
    rw [hi_bit] at c2
    unfold cubesL
    split
    · rename_i e; subst e; rw [Nat.zero_testBit]; rfl
    split
    · rename_i _ e
      rw [filter_same (g := h % 2 ^ w) fun p hp => by unfold inC; rw [low_and (cubes_ok w _ p hp).1], c1]
      congr 1
      by_cases hb : 2 ^ w ≤ h
      · have em : h % 2 ^ w = h - 2 ^ w := by rw [Nat.mod_eq_sub_mod hb, Nat.mod_eq_of_lt (by omega)]
        have := nat_bits.mp e (h % 2 ^ w)
        rw [lo_bit, decide_eq_true hm, Bool.true_and, hi_bit] at this
        rw [this, em]
        congr 1
        omega
      · rw [Nat.mod_eq_of_lt (by omega)]
    · rw [List.filter_append, List.length_append]
      by_cases hb : 2 ^ w ≤ h
      · have em : h % 2 ^ w = h - 2 ^ w := by rw [Nat.mod_eq_sub_mod hb, Nat.mod_eq_of_lt (by omega)]
        rw [filter_none fun p hp => by rw [(inC_up hh (cubes_ok w _ p hp).1 (cubes_ok w _ p hp).2).1, decide_eq_true hb]; rfl,
          filter_map_inC (g := h % 2 ^ w) fun p hp => by rw [(inC_up hh (cubes_ok w _ p hp).1 (cubes_ok w _ p hp).2).2, decide_eq_true hb]; rfl, c2, Nat.zero_add, em]
        congr 2
        omega
      · rw [filter_map_inC (g := h % 2 ^ w) fun p hp => by rw [(inC_up hh (cubes_ok w _ p hp).1 (cubes_ok w _ p hp).2).1, decide_eq_false hb]; rfl,
          filter_none fun p hp => by rw [(inC_up hh (cubes_ok w _ p hp).1 (cubes_ok w _ p hp).2).2, decide_eq_false hb]; rfl, c1, Nat.mod_eq_of_lt (by omega)]
        rfl
theorem cubes_full : ∀ w : Nat, cubesL w (allN w) = [(0, 0)]
  | 0 => rfl
  | w + 1 => by
    have hp := Nat.two_pow_pos (2 ^ (w + 1))
    have h2 : 2 ≤ 2 ^ 2 ^ (w + 1) := by
      have : 2 ^ 1 ≤ 2 ^ 2 ^ (w + 1) := Nat.pow_le_pow_right (by decide) (Nat.two_pow_pos _)
      exact this
    have e1 : allN (w + 1) &&& allN w = allN w := bit_ext fun i => by
      have e2 : 2 ^ (w + 1) = 2 ^ w + 2 ^ w := by rw [Nat.pow_succ]; omega
      rw [lo_bit, all_bit, all_bit]
      by_cases hi : i < 2 ^ w
      · simp [hi]; omega
      · simp [hi]
    have e3 : allN (w + 1) >>> 2 ^ w = allN w := bit_ext fun i => by
      have e2 : 2 ^ (w + 1) = 2 ^ w + 2 ^ w := by rw [Nat.pow_succ]; omega
      rw [hi_bit, all_bit, all_bit, decide_eq_decide]
      omega
    unfold cubesL
    rw [if_neg (by unfold allN; omega), e1, e3, if_pos rfl]
    exact cubes_full w
/-- two cubes meet -/
theorem meet_no {c v d u : Nat} (hv : v &&& c = v) (hu : u &&& d = u) (hne : (v ^^^ u) &&& c &&& d ≠ 0) (h : Nat) : ¬ (h &&& c = v ∧ h &&& d = u) := fun ⟨a, b⟩ => hne (by
  rw [and_eq] at a b
  rw [nat_bits]
  intro i
  have := a i
  have := b i
  simp only [Nat.testBit_and, Nat.testBit_xor, Nat.zero_testBit]
  cases hc : c.testBit i <;> cases hd : d.testBit i <;> cases hvi : v.testBit i <;> cases hui : u.testBit i <;> simp_all)
theorem meet_yes {c v d u : Nat} (hv : v &&& c = v) (hu : u &&& d = u) (he : (v ^^^ u) &&& c &&& d = 0) (h : Nat) : (h &&& c = v ∧ h &&& d = u) ↔ h &&& (c ||| d) = v ||| u := by
  rw [and_eq, and_eq, and_eq]
  rw [nat_bits] at he
  rw [← forall_and]
  refine forall_congr' fun i => ?_
  have e := he i
  have b1 := sub_bits hv i
  have b2 := sub_bits hu i
  simp only [Nat.testBit_and, Nat.testBit_xor, Nat.testBit_or, Nat.zero_testBit] at e ⊢
  cases hc : c.testBit i <;> cases hd : d.testBit i <;> cases hvi : v.testBit i <;> cases hui : u.testBit i <;> cases h.testBit i <;> simp_all
theorem or_sub {c v d u : Nat} (hv : v &&& c = v) (hu : u &&& d = u) : (v ||| u) &&& (c ||| d) = v ||| u := by
  rw [nat_bits]
  intro i
  have := sub_bits hv i
  have := sub_bits hu i
  simp only [Nat.testBit_and, Nat.testBit_or]
  cases hc : c.testBit i <;> cases hd : d.testBit i <;> cases hvi : v.testBit i <;> cases hui : u.testBit i <;> simp_all
end WW


set_option Elab.async false
set_option linter.all false
set_option maxRecDepth 100000
set_option maxHeartbeats 4000000
set_option autoImplicit false
namespace WW
open PySem PySem.Spec PyProof.Rows L2

/-! ### data without names: nothing, ints, texts, tuples of such; when two are equal -/
inductive T where
  | non | int (i : Int) | str (s : Str) | tup (ts : List T)
mutual
def T.d : T → D
  | .non => .non
  | .int i => .int i
  | .str s => .str s
  | .tup ts => .tup (T.ds ts)
def T.ds : List T → List D
  | [] => []
  | t :: r => t.d :: T.ds r
end
mutual
def T.p : T → PyData
  | .non => .none
  | .int i => .int i
  | .str s => .str s
  | .tup ts => .tuple (T.ps ts)
def T.ps : List T → List PyData
  | [] => []
  | t :: r => t.p :: T.ps r
end
mutual
/-- fit to be compared: no deeper than k, texts in order -/
def T.fit : Nat → T → Bool
  | _, .non => true
  | _, .int _ => true
  | _, .str s => PyData.canLay0 (.str s)
  | 0, .tup _ => false
  | k + 1, .tup ts => T.fits k ts
def T.fits : Nat → List T → Bool
  | _, [] => true
  | k, t :: r => t.fit k && T.fits k r
end
mutual
theorem T.fit_lay : ∀ (t : T) (k : Nat), t.fit k = true → t.p.canLay0 = true ∧ t.p.depth ≤ k
  | .non, _, _ => ⟨rfl, Nat.zero_le _⟩
  | .int _, _, _ => ⟨rfl, Nat.zero_le _⟩
  | .str s, k, h => ⟨by unfold T.fit at h; exact h, Nat.zero_le _⟩
  | .tup ts, 0, h => nomatch h
  | .tup ts, k + 1, h => by
    obtain ⟨a, b⟩ := T.fits_lay ts k (by unfold T.fit at h; exact h)
    exact ⟨by unfold T.p PyData.canLay0; exact a, by unfold T.p PyData.depth; omega⟩
theorem T.fits_lay : ∀ (ts : List T) (k : Nat), T.fits k ts = true → PyData.canLayAll0 (T.ps ts) = true ∧ PyData.depthAll (T.ps ts) ≤ k
  | [], _, _ => ⟨rfl, Nat.zero_le _⟩
  | t :: r, k, h => by
    unfold T.fits at h
    obtain ⟨h1, h2⟩ := Bool.and_eq_true_iff.mp h
    obtain ⟨a, b⟩ := T.fit_lay t k h1
    obtain ⟨c, d⟩ := T.fits_lay r k h2
    exact ⟨by unfold T.ps PyData.canLayAll0; rw [a, c]; rfl, by unfold T.ps PyData.depthAll; omega⟩
end
theorem T.fit_shaped {t : T} (h : t.fit 64 = true) : SeqAt.shaped t.p = true := by
  obtain ⟨a, b⟩ := T.fit_lay t 64 h
  unfold SeqAt.shaped
  rw [a, decide_eq_true b]
  rfl
mutual
theorem T.dp (S : Sto) : ∀ t : T, DpD S t.d t.p
  | .non => by unfold T.d T.p; exact .non
  | .int i => by unfold T.d T.p; exact .int i
  | .str s => by unfold T.d T.p; exact .str s
  | .tup ts => by unfold T.d T.p; exact .tup (T.dps S ts)
theorem T.dps (S : Sto) : ∀ ts : List T, DpAllD S (T.ds ts) (T.ps ts)
  | [] => by unfold T.ds T.ps; exact .nil
  | t :: r => by unfold T.ds T.ps; exact .cons (T.dp S t) (T.dps S r)
end
mutual
theorem T.eqv : ∀ t u : T, PyData.eqv t.p u.p = true ↔ t = u
  | .non, .non => by simp [T.p, PyData.eqv]
  | .non, .int _ => by simp [T.p, PyData.eqv]
  | .non, .str _ => by simp [T.p, PyData.eqv]
  | .non, .tup _ => by simp [T.p, PyData.eqv]
  | .int _, .non => by simp [T.p, PyData.eqv]
  | .int i, .int j => by simp [T.p, PyData.eqv]
  | .int _, .str _ => by simp [T.p, PyData.eqv]
  | .int _, .tup _ => by simp [T.p, PyData.eqv]
  | .str _, .non => by simp [T.p, PyData.eqv]
  | .str _, .int _ => by simp [T.p, PyData.eqv]
  | .str s, .str t => by simp [T.p, PyData.eqv]
  | .str _, .tup _ => by simp [T.p, PyData.eqv]
  | .tup _, .non => by simp [T.p, PyData.eqv]
  | .tup _, .int _ => by simp [T.p, PyData.eqv]
  | .tup _, .str _ => by simp [T.p, PyData.eqv]
  | .tup ts, .tup us => by
    simp only [T.p, PyData.eqv, T.tup.injEq]
    exact T.eqvs ts us
theorem T.eqvs : ∀ ts us : List T, PyData.eqvAll (T.ps ts) (T.ps us) = true ↔ ts = us
  | [], [] => by simp [T.ps, PyData.eqvAll]
  | [], _ :: _ => by simp [T.ps, PyData.eqvAll]
  | _ :: _, [] => by simp [T.ps, PyData.eqvAll]
  | t :: r, u :: q => by
    simp only [T.ps, PyData.eqvAll, Bool.and_eq_true, List.cons.injEq]
    rw [T.eqv t u, T.eqvs r q]
end
def T.flat : T → Bool
  | .tup _ => false
  | _ => true
theorem T.cmp {t u : T} {S : Sto} {Q : Q1} {neg : Bool} (ht : t.fit 64 = true) (hu : u.fit 64 = true) (q : ∀ b : Bool, (b = true ↔ t = u) → Q (.bl (sg neg b)) S) : cmpEq neg t.d u.d S Q := by
  unfold cmpEq
  have deep : scalD t.d u.d = none → ∃ p q, DpD S t.d p ∧ DpD S u.d q ∧ SeqAt.shaped p = true ∧ SeqAt.shaped q = true ∧ Q (.bl (sg neg (PyData.eqv p q))) S := fun _ =>
    ⟨_, _, T.dp S t, T.dp S u, T.fit_shaped ht, T.fit_shaped hu, q _ (T.eqv t u)⟩
  cases t with
  | tup ts =>
    have e : scalD (T.tup ts).d u.d = none := by cases u <;> simp [T.d, scalD]
    rw [e]
    exact deep e
  | non => cases u with
    | tup us =>
      have e : scalD T.non.d (T.tup us).d = none := by simp [T.d, scalD]
      rw [e]
      exact deep e
    | non => simpa [T.d, scalD] using q true (by simp)
    | int j => simpa [T.d, scalD] using q false (by simp)
    | str j => simpa [T.d, scalD] using q false (by simp)
  | int i => cases u with
    | tup us =>
      have e : scalD (T.int i).d (T.tup us).d = none := by simp [T.d, scalD]
      rw [e]
      exact deep e
    | non => simpa [T.d, scalD] using q false (by simp)
    | int j => simpa [T.d, scalD] using q (decide (i = j)) (by simp)
    | str j => simpa [T.d, scalD] using q false (by simp)
  | str s => cases u with
    | tup us =>
      have e : scalD (T.str s).d (T.tup us).d = none := by simp [T.d, scalD]
      rw [e]
      exact deep e
    | non => simpa [T.d, scalD] using q false (by simp)
    | int j => simpa [T.d, scalD] using q false (by simp)
    | str j => simpa [T.d, scalD] using q (decide (s = j)) (by simp)
/-- two lists of such data -/
theorem T.cmpL {m n : Nat} {ts us : List T} {S : Sto} {Q : Q1} {neg : Bool} (hm : S[m]? = some (.lst (T.ds ts))) (hn : S[n]? = some (.lst (T.ds us))) (ht : T.fits 63 ts = true) (hu : T.fits 63 us = true) (q : ∀ b : Bool, (b = true ↔ ts = us) → Q (.bl (sg neg b)) S) :
    cmpEq neg (.ref m) (.ref n) S Q := by
  unfold cmpEq
  show ∃ p q, DpD S (.ref m) p ∧ DpD S (.ref n) q ∧ SeqAt.shaped p = true ∧ SeqAt.shaped q = true ∧ Q (.bl (sg neg (PyData.eqv p q))) S
  have sh : ∀ ts : List T, T.fits 63 ts = true → SeqAt.shaped (.list (T.ps ts)) = true := fun ts h => by
    obtain ⟨a, b⟩ := T.fits_lay ts 63 h
    unfold SeqAt.shaped
    have c1 : (PyData.list (T.ps ts)).canLay0 = true := by unfold PyData.canLay0; exact a
    have c2 : (PyData.list (T.ps ts)).depth ≤ 64 := by unfold PyData.depth; omega
    rw [c1, decide_eq_true c2]
    rfl
  refine ⟨.list (T.ps ts), .list (T.ps us), .lst hm (T.dps S ts), .lst hn (T.dps S us), sh ts ht, sh us hu, q _ ?_⟩
  have e : PyData.eqv (.list (T.ps ts)) (.list (T.ps us)) = PyData.eqvAll (T.ps ts) (T.ps us) := by simp only [PyData.eqv]
  rw [e]
  exact T.eqvs ts us
/-- pairs of naturals -/
def T.pr (p : Nat × Nat) : T := .tup [.int p.1, .int p.2]
theorem T.pr_d (a b : Nat) : D.tup [nt a, nt b] = (T.pr (a, b)).d := rfl
theorem T.pr_inj {p q : Nat × Nat} : T.pr p = T.pr q ↔ p = q := by
  unfold T.pr
  constructor
  · intro h
    injection h with h
    injection h with h1 h
    injection h with h2 h
    injection h1 with h1
    injection h2 with h2
    exact Prod.ext (by omega) (by omega)
  · rintro rfl; rfl
theorem T.ds_map {α : Type} (f : α → T) : ∀ l : List α, T.ds (l.map f) = l.map fun x => (f x).d
  | [] => rfl
  | x :: r => by
    show (f x).d :: T.ds (r.map f) = _
    rw [T.ds_map f r]
    rfl
theorem T.fits_map {α : Type} {f : α → T} {k : Nat} (h : ∀ x, (f x).fit k = true) : ∀ l : List α, T.fits k (l.map f) = true
  | [] => by unfold T.fits; rfl
  | x :: r => by
    show (T.fits k (f x :: r.map f)) = true
    unfold T.fits
    rw [h x, T.fits_map h r]
    rfl
theorem map_inj {α β : Type} {f : α → β} (h : ∀ x y, f x = f y → x = y) : ∀ {a b : List α}, a.map f = b.map f ↔ a = b
  | [], [] => by simp
  | [], _ :: _ => by simp
  | _ :: _, [] => by simp
  | x :: a, y :: b => by
    rw [List.map_cons, List.map_cons, List.cons.injEq, List.cons.injEq, map_inj h]
    exact ⟨fun ⟨p, q⟩ => ⟨h _ _ p, q⟩, fun ⟨p, q⟩ => ⟨by rw [p], q⟩⟩
end WW


set_option autoImplicit false
set_option linter.all false
set_option maxRecDepth 100000
namespace WW
open PySem PySem.Spec PyProof.Rows L2
open SX (S)
/-! ### texts by their signs -/
theorem cps_S (l : List Nat) : (SX.S l).cps.toList = l := rfl
theorem cut_from {l : List Nat} {k : Nat} (h : k ≤ l.length) : cutS (SX.S l) (some (k : Int)) none = SX.S (l.drop k) := by
  unfold cutS
  rw [HT.sIx_none, HT.sIx_nat, SX.S_len, cps_S, Nat.min_eq_left h]
  show SX.S _ = SX.S _
  congr 1
  rw [List.take_of_length_le (by rw [List.length_drop]; exact Nat.le_refl _)]
theorem cut_to {l : List Nat} {k : Nat} (h : k ≤ l.length) : cutS (SX.S l) none (some (k : Int)) = SX.S (l.take k) := by
  unfold cutS
  rw [HT.sIx_none, HT.sIx_nat, SX.S_len, cps_S, Nat.min_eq_left h]
  show SX.S _ = SX.S _
  congr 1
theorem join_one : ∀ l : List Nat, TL.joinL [] (l.map fun c => [c]) = l
  | [] => rfl
  | [x] => rfl
  | x :: y :: r => by
    show [x] ++ ([] ++ TL.joinL [] ((y :: r).map fun c => [c])) = _
    rw [join_one (y :: r)]
    rfl
theorem join_signs (l : List Nat) : Txt.join (SX.S []) (l.map fun c => SX.S [c]) = SX.S l := by
  have e : (l.map fun c => SX.S [c]) = (l.map fun c => [c]).map SX.S := by rw [List.map_map]; rfl
  rw [e, SX.join_S, join_one]
theorem st_star : Str.ofString "*" = SX.S [42] := rfl
theorem st_0 : Str.ofString "0" = SX.S [48] := rfl
theorem st_1 : Str.ofString "1" = SX.S [49] := rfl
theorem st_2 : Str.ofString "2" = SX.S [50] := rfl
theorem st_sp : Str.ofString " " = SX.S [32] := rfl
theorem st_e : Str.ofString "" = SX.S [] := rfl
section
variable {S : Sto} {Q : Q1} {a b : List Nat} {s t : Str}
theorem s_add (h : a.length + b.length ≤ 100000) (q : Q (.str (SX.S (a ++ b))) S) : opAdd (.str (SX.S a)) (.str (SX.S b)) S Q := by
  refine ⟨?_, ?_⟩
  · rw [SX.S_len, SX.S_len]
    exact Nat.le_of_lt (sz_of' h)
  · rw [SX.S_cat]
    exact q
theorem s_eq (q : Q (.bl (decide (s = t))) S) : cmpD .Eq (.str s) (.str t) S Q := q
theorem s_ne (q : Q (.bl (!decide (s = t))) S) : cmpD .NotEq (.str s) (.str t) S Q := q
theorem s_len (h : a.length ≤ 100000) (q : Q (nt a.length) S) : lenC [.str (SX.S a)] S Q := by
  refine ⟨?_, ?_⟩
  · rw [SX.S_len]
    exact Nat.le_of_lt (sz_of' h)
  · rw [SX.S_len]
    exact q
theorem S_iff : SX.S a = SX.S b ↔ a = b := ⟨SX.S_inj, fun h => by rw [h]⟩
end
/-! ### patterns -/
def signAt (c v b : Nat) : Nat := if c.testBit b = true then (if v.testBit b = true then 49 else 48) else 42
def patL (c v w k : Nat) : List Nat := (List.range k).map fun i => signAt c v (w - 1 - i)
theorem patL_len (c v w k : Nat) : (patL c v w k).length = k := by
  unfold patL
  rw [List.length_map, List.length_range]
theorem patL_succ (c v w k : Nat) : patL c v w (k + 1) = patL c v w k ++ [signAt c v (w - 1 - k)] := by
  unfold patL
  rw [List.range_succ, List.map_append]
  rfl
theorem patL_get {c v w k i : Nat} (h : i < k) : (patL c v w k)[i]? = some (signAt c v (w - 1 - i)) := by
  unfold patL
  rw [List.getElem?_map, List.getElem?_range h]
  rfl
theorem shr_bit (c b : Nat) : c >>> b = 2 * (c >>> (b + 1)) + (c.testBit b).toNat := by
  rw [Nat.testBit_eq_decide_div_mod_eq, Nat.shiftRight_eq_div_pow, Nat.shiftRight_eq_div_pow, Nat.pow_succ, ← Nat.div_div_eq_div_mul]
  rcases Nat.mod_two_eq_zero_or_one (c / 2 ^ b) with h | h <;> simp [h] <;> omega
theorem shr_top {c w : Nat} (h : c < 2 ^ w) : c >>> w = 0 := by
  rw [Nat.shiftRight_eq_div_pow, Nat.div_eq_zero_iff]
  exact .inr h
theorem rng_getC {n i : Nat} {lo c : Int} {d : D} (h : ((List.range n).map fun k => D.int (lo + (k : Nat) * c))[i]? = some d) : i < n ∧ d = .int (lo + (i : Nat) * c) := by
  rw [List.getElem?_map] at h
  cases q : (List.range n)[i]? with
  | none => rw [q] at h; cases h
  | some k =>
    obtain ⟨h1, h2⟩ := List.getElem?_eq_some_iff.mp q
    rw [List.getElem_range] at h2
    subst h2
    rw [q] at h
    cases h
    exact ⟨by simpa using h1, rfl⟩
/-- for i in range(lo, hi, c) -/
theorem forC {p : Pat} {b : WS} {k : KK} {n : Nat} {lo c : Int} {ρ : Rho} {S : Sto} (I : Nat → Rho → Sto → Prop) (h0 : I 0 ρ S)
    (hs : ∀ i ρ S (N : Rho → Sto → Prop), i < n → I i ρ S → (∀ ρ' S', I (i + 1) ρ' S' → N ρ' S') → gv (bindP p (.int (lo + (i : Nat) * c)) ρ) fun ρ' => b { k with nx := N, ct := N, bk := k.nx } ρ' S)
    (he : ∀ ρ S, I n ρ S → k.nx ρ S) : forGo (fun _ => True) p b k ((List.range n).map fun k => .int (lo + (k : Nat) * c)) ρ S :=
  forI I h0 (fun i d ρ S N hd hI hN => by
    obtain ⟨h1, rfl⟩ := rng_getC hd
    exact ⟨trivial, hs i ρ S N h1 hI hN⟩) fun ρ S hI => ⟨trivial, he ρ S (by simpa using hI)⟩
/-- from w - 1 down to 0 -/
theorem down_len {w : Nat} (h : 1 ≤ w) : (((w - 1 : Nat) : Int) - (-1)).toNat = w := by omega
theorem down_at {w i : Nat} (h : i < w) : ((w - 1 : Nat) : Int) + (i : Nat) * (-1) = ((w - 1 - i : Nat) : Int) := by omega
theorem sum_ones (l : List Nat) : ((l.map fun s => SX.S [s]).map (·.length)).sum = l.length := by
  induction l with
  | nil => rfl
  | cons x r ih =>
    rw [List.map_cons, List.map_cons, List.sum_cons, ih, SX.S_len, List.length_cons, List.length_cons]
    show 0 + 1 + r.length = r.length + 1
    omega
end WW


set_option Elab.async false
set_option linter.all false
set_option maxRecDepth 100000
set_option maxHeartbeats 4000000
set_option autoImplicit false
namespace WW
open PySem PySem.Spec PyProof.Rows L2
local macro_rules | `(tactic| walk_at "w") => `(tactic| try dsimp only [st_star, st_0, st_1, st_2, st_sp, st_e, en_2, ap_var, ap_cst, ap_op, ap_neg, ap_notV, ap_andV, ap_orV, ap_chain, ap_if, ap_nil, ap_cons, ap_tup, ap_lst, ap_noP, ap_part, ap_slc, ap_call, ap_callX, ap_blt, ap_isi, ap_or, ap_lstR, ap_tupR, ap_dct, ap_fld, ap_mth, ap_mak, ap_fset, ap_forN, ap_met, ap_bits, ap_tst, ap_tsB, ap_notB, ap_andB, ap_orB, ap_yes, ap_lc, ap_sset, ap_asg, ap_asgP, ap_set, ap_drop, ap_ret, ap_retN, ap_brk, ap_cnt, ap_pas, ap_sq, ap_ifS, ap_for, ap_seqI, ap_rng, ap_enum, look, putR, kkOf, rd_int, rd_bl, rd_T, rd_F, rd_nm, rd_tp, rd_nil, rd_cons, rd_gv, rd_trB, rd_srcT, rd_rng1, rd_rng2, rd_notT, rd_notF, rd_wp0, rd_wp1, rd_rg1, rd_rg2, ty_non, ty_bl, ty_int, ty_str, ty_tup, isiB])
/- read_pattern(text, width): slots text=0 width=1 care=2 value=3 sign=4 -/
def c_read_pattern_1 : WS :=
  (wSq (wIfS (wTsB (wOp (cmpD .NotIn) (wVar 4) (wTup (wCons (wCst (.str (Str.ofString "0"))) (wCons (wCst (.str (Str.ofString "1"))) (wCons (wCst (.str (Str.ofString "*"))) wNil)))))) (wRet (wCst .non)) wPas)
  (wSq (wAsg 2 (wOp opAdd (wOp opMul (wCst (.int 2)) (wVar 2)) (wIf (wTsB (wOp (cmpD .Eq) (wVar 4) (wCst (.str (Str.ofString "*"))))) (wCst (.int 0)) (wCst (.int 1)))))
  (wAsg 3 (wOp opAdd (wOp opMul (wCst (.int 2)) (wVar 3)) (wIf (wTsB (wOp (cmpD .Eq) (wVar 4) (wCst (.str (Str.ofString "1"))))) (wCst (.int 1)) (wCst (.int 0)))))))
def c_read_pattern : WS :=
  (wSq (wIfS (wOrB (wNotB (wTst (wIsi .str (wVar 0)))) (wTsB (wOp (cmpD .NotEq) (wBlt lenC (wCons (wVar 0) wNil)) (wVar 1)))) (wRet (wCst .non)) wPas)
  (wSq (wAsg 2 (wCst (.int 0)))
  (wSq (wAsg 3 (wCst (.int 0)))
  (wSq (wForN 0 (.nm 4) c_read_pattern_1)
  (wRet (wTup (wCons (wVar 2) (wCons (wVar 3) wNil))))))))

/- write_pattern(care, value, width): slots care=0 value=1 width=2 signs=3 bit=4 -/
def c_write_pattern_1 : WS :=
  (wIfS (wTsB (wOp (cmpD .Eq) (wOp opAnd (wOp opShr (wVar 0) (wVar 4)) (wCst (.int 1))) (wCst (.int 0)))) (wDrop (wMet lstTy appM (wVar 3) (wCons (wCst (.str (Str.ofString "*"))) wNil))) (wDrop (wMet lstTy appM (wVar 3) (wCons (wIf (wTst (wOp opAnd (wOp opShr (wVar 1) (wVar 4)) (wCst (.int 1)))) (wCst (.str (Str.ofString "1"))) (wCst (.str (Str.ofString "0")))) wNil))))
def c_write_pattern : WS :=
  (wSq (wAsg 3 (wLst wNil))
  (wSq (wFor (wRng (wCons (wOp opSub (wVar 2) (wCst (.int 1))) (wCons (wNeg (wCst (.int 1))) (wCons (wNeg (wCst (.int 1))) wNil)))) (.nm 4) c_write_pattern_1)
  (wRet (wMet strTy joinM (wCst (.str (Str.ofString ""))) (wCons (wVar 3) wNil)))))

/- _law_pattern(care, value, bits): slots care=0 value=1 bits=2 text=3 bit=4 place=5 sign=6 -/
def c_law_pattern_1 : WS :=
  (wSq (wAsg 5 (wOp opSub (wOp opSub (wVar 2) (wCst (.int 1))) (wVar 4)))
  (wSq (wAsg 6 (wCst (.str (Str.ofString "*"))))
  (wSq (wIfS (wTst (wOp opAnd (wOp opShr (wVar 0) (wVar 5)) (wCst (.int 1)))) (wAsg 6 (wIf (wTst (wOp opAnd (wOp opShr (wVar 1) (wVar 5)) (wCst (.int 1)))) (wCst (.str (Str.ofString "1"))) (wCst (.str (Str.ofString "0"))))) wPas)
  (wAsg 3 (wOp opAdd (wVar 3) (wVar 6))))))
def c_law_pattern : WS :=
  (wSq (wAsg 3 (wCst (.str (Str.ofString ""))))
  (wSq (wFor (wRng (wCons (wVar 2) wNil)) (.nm 4) c_law_pattern_1)
  (wRet (wVar 3))))


/-! ### patterns -/
def sp_law_pattern : Spec := fun ds S Q => ∃ c v w : Nat, ds = [nt c, nt v, nt w] ∧ w ≤ 1000 ∧ Q (.str (SX.S (patL c v w w))) S
theorem good_law_pattern : Good 7 3 c_law_pattern sp_law_pattern := by
  intro ds S Q _ h
  obtain ⟨c, v, w, rfl, hw, q⟩ := h
  show c_law_pattern (kkOf Q) [some (nt c), some (nt v), some (nt w), none, none, none, none] S
  unfold c_law_pattern
  walk_at "w"
  refine ⟨by omega, ?_⟩
  rw [Int.toNat_natCast]
  refine forR (fun i ρ S' => S' = S ∧ ∃ x y z, ρ = [some (nt c), some (nt v), some (nt w), some (.str (SX.S (patL c v w i))), x, y, z]) ⟨rfl, none, none, none, rfl⟩ (fun i ρ S' N hi hI hN => ?_) (fun ρ S' hI => ?_)
  · obtain ⟨rfl, x, y, z, rfl⟩ := hI
    rw [Int.zero_add]
    walk_at "w"
    unfold c_law_pattern_1
    walk_at "w"
    refine n_sub (b := 1) (by omega) (n_sub (by omega) (n_bit (n_truB ?_)))
    have fin : ∀ s, s = signAt c v (w - 1 - i) → ∀ x, opAdd (.str (SX.S (patL c v w i))) (.str (SX.S [s])) S' fun d S1 => N [some (nt c), some (nt v), some (nt w), some d, some (nt i), some (nt (w - 1 - i)), some x] S1 := fun s e x => by
      refine s_add (by rw [patL_len]; show i + 1 ≤ 100000; omega) ?_
      rw [e, ← patL_succ]
      exact hN _ _ ⟨rfl, _, _, _, rfl⟩
    cases hc : c.testBit (w - 1 - i) with
    | false =>
      walk_at "w"
      exact fin 42 (by unfold signAt; rw [hc, if_neg Bool.false_ne_true]) _
    | true =>
      walk_at "w"
      refine n_bit (n_truB ?_)
      cases hv : v.testBit (w - 1 - i) with
      | false =>
        walk_at "w"
        exact fin 48 (by unfold signAt; rw [hc, hv, if_pos rfl, if_neg Bool.false_ne_true]) _
      | true =>
        walk_at "w"
        exact fin 49 (by unfold signAt; rw [hc, hv, if_pos rfl, if_pos rfl]) _
  · obtain ⟨rfl, x, y, z, rfl⟩ := hI
    exact q
def sp_write_pattern : Spec := fun ds S Q => ∃ c v w : Nat, ds = [nt c, nt v, nt w] ∧ 1 ≤ w ∧ w ≤ 1000 ∧ ∀ S', Ext S S' → Q (.str (SX.S (patL c v w w))) S'
theorem good_write_pattern : Good 5 3 c_write_pattern sp_write_pattern := by
  intro ds S Q _ h
  obtain ⟨c, v, w, rfl, hw1, hw, q⟩ := h
  show c_write_pattern (kkOf Q) [some (nt c), some (nt v), some (nt w), none, none] S
  unfold c_write_pattern
  walk_at "w"
  refine ⟨by show 0 ≤ sizeLine; decide, n_sub (b := 1) hw1 ?_⟩
  refine ⟨_, RgC.neg (by omega) (by omega) (by decide) (by decide), ?_⟩
  rw [down_len hw1]
  refine forC (fun i ρ S' => Ext S S' ∧ S'[S.length]? = some (.lst ((patL c v w i).map fun s => .str (SX.S [s]))) ∧ ∃ x, ρ = [some (nt c), some (nt v), some (nt w), some (.ref S.length), x]) ⟨Ext.push _ _, push_at, none, rfl⟩ (fun i ρ S' N hi hI hN => ?_) (fun ρ S' hI => ?_)
  · obtain ⟨hE, hp, x, rfl⟩ := hI
    rw [down_at hi]
    walk_at "w"
    unfold c_write_pattern_1
    walk_at "w"
    have fin : ∀ s, s = signAt c v (w - 1 - i) → lstTy (.ref S.length) S' ∧ appM (.ref S.length) [.str (SX.S [s])] S' fun d S1 => N [some (nt c), some (nt v), some (nt w), some (.ref S.length), some (nt (w - 1 - i))] S1 := fun s e => by
      refine ⟨⟨_, hp⟩, m_app hp ?_ ?_⟩
      · rw [List.length_map, patL_len]
        exact sz_of' (by omega)
      · refine hN _ _ ⟨hE.set (Nat.le_refl _), ?_, _, rfl⟩
        rw [set_at hp, patL_succ, List.map_append, e]
        rfl
    refine n_bit (n_eq (b := 0) ?_)
    cases hc : c.testBit (w - 1 - i) with
    | false =>
      walk_at "w"
      exact fin 42 (by unfold signAt; rw [hc, if_neg Bool.false_ne_true])
    | true =>
      walk_at "w"
      have ht := (fin 42 · |>.1)
      refine ⟨⟨_, hp⟩, n_bit (n_truB ?_)⟩
      cases hv : v.testBit (w - 1 - i) with
      | false =>
        walk_at "w"
        exact (fin 48 (by unfold signAt; rw [hc, hv, if_pos rfl, if_neg Bool.false_ne_true])).2
      | true =>
        walk_at "w"
        exact (fin 49 (by unfold signAt; rw [hc, hv, if_pos rfl, if_pos rfl])).2
  · obtain ⟨hE, hp, x, rfl⟩ := hI
    walk_at "w"
    refine ⟨trivial, (patL c v w w).map (fun s => SX.S [s]), ?_, ?_, ?_⟩
    · rw [hp, List.map_map]
      rfl
    · rw [sum_ones, patL_len, SX.S_len]
      show w + _ * 0 ≤ 16777216
      omega
    · rw [join_signs]
      exact q S' hE
theorem sign_ok (c v b : Nat) : inF (.str (SX.S [signAt c v b])) [.str (SX.S [48]), .str (SX.S [49]), .str (SX.S [42])] = true := by
  unfold signAt
  cases c.testBit b with
  | false => rfl
  | true => cases v.testBit b with
    | false => rfl
    | true => rfl
def badSign (s : Nat) : Bool := !(s == 48 || s == 49 || s == 42)
theorem sign_in (s : Nat) : inF (.str (SX.S [s])) [.str (SX.S [48]), .str (SX.S [49]), .str (SX.S [42])] = !badSign s := by
  unfold badSign
  rw [Bool.not_not]
  have e : ∀ t, (SX.S [t] == SX.S [s]) = (s == t) := fun t => by
    rw [SX.S_beq, Bool.eq_iff_iff, beq_iff_eq, beq_iff_eq]
    constructor
    · intro h; injection h with h; exact h.symm
    · intro h; rw [h]
  show ((SX.S [48] == SX.S [s]) || ((SX.S [49] == SX.S [s]) || ((SX.S [42] == SX.S [s]) || false))) = _
  rw [e, e, e, Bool.or_false, Bool.or_assoc]
def sp_read_pattern : Spec := fun ds S Q => (∃ (d : D) (w : Nat), ds = [d, nt w] ∧ (d = .non ∨ ∃ i, d = .int i) ∧ Q .non S) ∨
  (∃ (l : List Nat) (w : Nat), ds = [.str (SX.S l), nt w] ∧ w ≤ 13 ∧ l.length ≤ 100 ∧ (l.length ≠ w ∨ ∃ s ∈ l, badSign s = true) ∧ Q .non S) ∨
  ∃ c v w : Nat, ds = [.str (SX.S (patL c v w w)), nt w] ∧ w ≤ 13 ∧ c < 2 ^ w ∧ v &&& c = v ∧ Q (.tup [nt c, nt v]) S
theorem sign_42 (s : Nat) : decide (SX.S [s] = SX.S [42]) = decide (s = 42) := by
  rw [decide_eq_decide, S_iff]
  constructor
  · intro h; injection h
  · rintro rfl; rfl
theorem sign_49 (s : Nat) : decide (SX.S [s] = SX.S [49]) = decide (s = 49) := by
  rw [decide_eq_decide, S_iff]
  constructor
  · intro h; injection h
  · rintro rfl; rfl
theorem n_two {a : Nat} {S : Sto} {Q : Q1} (h : a < 2 ^ 20) (q : Q (nt (2 * a)) S) : opMul (.int 2) (nt a) S Q := n_mulS (a := 2) (Nat.lt_trans h (by decide)) q
theorem read_turn {k : KK} {a b w s : Nat} {S : Sto} {t : Option D} (hb : badSign s = false) (ha : a < 2 ^ 20) (hb2 : b < 2 ^ 20)
    (h : ∀ (p q : Nat), p = (if s = 42 then 0 else 1) → q = (if s = 49 then 1 else 0) → k.nx [t, some (nt w), some (nt (2 * a + p)), some (nt (2 * b + q)), some (.str (SX.S [s]))] S) :
    c_read_pattern_1 k [t, some (nt w), some (nt a), some (nt b), some (.str (SX.S [s]))] S := by
  unfold c_read_pattern_1
  refine sq_cut (fun ρ S' => S' = S ∧ ρ = [t, some (nt w), some (nt a), some (nt b), some (.str (SX.S [s]))]) (fun N hN => ?_) (fun ρ S1 hI => ?_)
  · walk_at "w"
    refine ⟨by show 3 ≤ sizeLine; decide, rfl, rfl, ?_⟩
    rw [sign_in, hb]
    exact hN _ _ ⟨rfl, rfl⟩
  obtain ⟨rfl, rfl⟩ := hI
  refine sq_cut (fun ρ S' => S' = S1 ∧ ∃ p : Nat, p = (if s = 42 then 0 else 1) ∧ ρ = [t, some (nt w), some (nt (2 * a + p)), some (nt b), some (.str (SX.S [s]))]) (fun N hN => ?_) (fun ρ S1 hI => ?_)
  · walk_at "w"
    refine n_two ha (s_eq ?_)
    rw [sign_42]
    walk_at "w"
    by_cases e : s = 42
    · rw [decide_eq_true e]
      walk_at "w"
      exact n_add (b := 0) (hN _ _ ⟨rfl, 0, by rw [if_pos e], rfl⟩)
    · rw [decide_eq_false e]
      walk_at "w"
      exact n_add (b := 1) (hN _ _ ⟨rfl, 1, by rw [if_neg e], rfl⟩)
  obtain ⟨rfl, p, hp, rfl⟩ := hI
  walk_at "w"
  refine n_two hb2 (s_eq ?_)
  rw [sign_49]
  walk_at "w"
  by_cases e : s = 49
  · rw [decide_eq_true e]
    walk_at "w"
    exact n_add (b := 1) (h p 1 hp (by rw [if_pos e]))
  · rw [decide_eq_false e]
    walk_at "w"
    exact n_add (b := 0) (h p 0 hp (by rw [if_neg e]))
theorem read_bad {k : KK} {a b w s : Nat} {S : Sto} {t : Option D} (hb : badSign s = true) (h : k.rt .non S) : c_read_pattern_1 k [t, some (nt w), some (nt a), some (nt b), some (.str (SX.S [s]))] S := by
  unfold c_read_pattern_1
  walk_at "w"
  refine ⟨by show 3 ≤ sizeLine; decide, rfl, rfl, ?_⟩
  rw [sign_in, hb]
  exact h
theorem signs_at {l : List Nat} {i : Nat} {d : D} (h : ((SX.S l).cps.toList.map fun c => D.str ⟨#[c]⟩)[i]? = some d) : ∃ s, l[i]? = some s ∧ d = .str (SX.S [s]) := by
  rw [List.getElem?_map, cps_S] at h
  cases q : l[i]? with
  | none => rw [q] at h; cases h
  | some s => rw [q] at h; cases h; exact ⟨s, rfl, rfl⟩
theorem good_read_pattern : Good 5 2 c_read_pattern sp_read_pattern := by
  intro ds S Q _ h
  rcases h with ⟨d, w, rfl, hd, q⟩ | ⟨l, w, rfl, hw, hl, hb, q⟩ | ⟨c, v, w, rfl, hw, hc, hv, q⟩
  · show c_read_pattern (kkOf Q) [some d, some (nt w), none, none, none] S
    unfold c_read_pattern
    walk_at "w"
    rcases hd with rfl | ⟨i, rfl⟩
    · exact q
    · exact q
  · show c_read_pattern (kkOf Q) [some (.str (SX.S l)), some (nt w), none, none, none] S
    unfold c_read_pattern
    refine sq_cut (fun ρ S' => S' = S ∧ l.length = w ∧ ρ = [some (.str (SX.S l)), some (nt w), none, none, none]) (fun N hN => ?_) (fun ρ S1 hI => ?_)
    · walk_at "w"
      refine s_len (by omega) (n_ne ?_)
      by_cases e : l.length = w
      · rw [decide_eq_true e]
        exact hN _ _ ⟨rfl, e, rfl⟩
      · rw [decide_eq_false e]
        exact q
    obtain ⟨rfl, e, rfl⟩ := hI
    rcases hb with hb | ⟨s, hs, hb⟩
    · exact absurd e hb
    obtain ⟨j, hj, ej⟩ := List.mem_iff_getElem.mp hs
    walk_at "w"
    refine .inl ?_
    refine forI (fun i ρ S' => S' = S1 ∧ i ≤ j ∧ ∃ a b x, a < 2 ^ i ∧ b < 2 ^ i ∧ ρ = [some (.str (SX.S l)), some (nt w), some (nt a), some (nt b), x]) ⟨rfl, Nat.zero_le _, 0, 0, none, by decide, by decide, rfl⟩ (fun i d ρ S' N hd hI hN => ?_) (fun ρ S' hI => ?_)
    · obtain ⟨rfl, hij, a, b, x, ha, hb3, rfl⟩ := hI
      obtain ⟨t, ht, rfl⟩ := signs_at hd
      refine ⟨trivial, ?_⟩
      walk_at "w"
      cases hbt : badSign t with
      | true => exact read_bad hbt q
      | false =>
        have hil := (List.getElem?_eq_some_iff.mp ht).1
        have h20 : 2 ^ i ≤ 2 ^ 20 := Nat.pow_le_pow_right (by decide) (by omega)
        refine read_turn hbt (by omega) (by omega) fun p r hp hr => hN _ _ ⟨rfl, ?_, _, _, _, ?_, ?_, rfl⟩
        · apply Nat.lt_of_le_of_ne hij
          rintro rfl
          rw [List.getElem?_eq_getElem hj, ej] at ht
          cases ht
          rw [hb] at hbt
          cases hbt
        · rw [Nat.pow_succ]; split at hp <;> omega
        · rw [Nat.pow_succ]; split at hr <;> omega
    · obtain ⟨rfl, hij, _⟩ := hI
      rw [List.length_map, cps_S] at hij
      omega
  · show c_read_pattern (kkOf Q) [some (.str (SX.S (patL c v w w))), some (nt w), none, none, none] S
    unfold c_read_pattern
    have hlen := patL_len c v w w
    refine sq_cut (fun ρ S' => S' = S ∧ ρ = [some (.str (SX.S (patL c v w w))), some (nt w), none, none, none]) (fun N hN => ?_) (fun ρ S1 hI => ?_)
    · walk_at "w"
      refine s_len (by omega) (n_ne ?_)
      rw [decide_eq_true hlen]
      exact hN _ _ ⟨rfl, rfl⟩
    obtain ⟨rfl, rfl⟩ := hI
    have hv2 : v < 2 ^ w := by
      rw [← hv]
      exact Nat.lt_of_le_of_lt Nat.and_le_right hc
    walk_at "w"
    refine .inl ?_
    refine forI (fun i ρ S' => S' = S1 ∧ i ≤ w ∧ ∃ x, ρ = [some (.str (SX.S (patL c v w w))), some (nt w), some (nt (c >>> (w - i))), some (nt (v >>> (w - i))), x]) ⟨rfl, Nat.zero_le _, none, by rw [Nat.sub_zero, shr_top hc, shr_top hv2]; rfl⟩ (fun i d ρ S' N hd hI hN => ?_) (fun ρ S' hI => ?_)
    · obtain ⟨rfl, hiw, x, rfl⟩ := hI
      obtain ⟨t, ht, rfl⟩ := signs_at hd
      have hil := (List.getElem?_eq_some_iff.mp ht).1
      rw [hlen] at hil
      rw [patL_get hil] at ht
      cases ht
      refine ⟨trivial, ?_⟩
      walk_at "w"
      have h20 : 2 ^ w ≤ 2 ^ 20 := Nat.pow_le_pow_right (by decide) (by omega)
      have le : ∀ a, a < 2 ^ w → a >>> (w - i) < 2 ^ 20 := fun a ha => by
        have : a >>> (w - i) ≤ a := by rw [Nat.shiftRight_eq_div_pow]; exact Nat.div_le_self _ _
        omega
      have hb : badSign (signAt c v (w - 1 - i)) = false := by
        have := sign_ok c v (w - 1 - i)
        rw [sign_in] at this
        simpa using this
      refine read_turn hb (le c hc) (le v hv2) fun p r hp hr => hN _ _ ⟨rfl, by omega, some (.str (SX.S [signAt c v (w - 1 - i)])), ?_⟩
      have e1 : w - i = (w - 1 - i) + 1 := by omega
      have e2 : w - (i + 1) = w - 1 - i := by omega
      have sb := sub_bits hv (w - 1 - i)
      have hp' : p = (c.testBit (w - 1 - i)).toNat := by
        rw [hp]
        unfold signAt
        cases c.testBit (w - 1 - i) <;> cases v.testBit (w - 1 - i) <;> rfl
      have hr' : r = (v.testBit (w - 1 - i)).toNat := by
        rw [hr]
        unfold signAt
        cases hc1 : c.testBit (w - 1 - i) <;> cases hv1 : v.testBit (w - 1 - i) <;> simp_all
      rw [e1, e2, shr_bit c (w - 1 - i), shr_bit v (w - 1 - i), hp', hr']
    · obtain ⟨rfl, hiw, x, rfl⟩ := hI
      walk_at "w"
      have e : (List.map (fun c => D.str { cps := #[c] }) (SX.S (patL c v w w)).cps.toList).length = w := by rw [List.length_map, cps_S, hlen]
      refine ⟨trivial, by show 2 ≤ sizeLine; decide, ?_⟩
      show Q (.tup [nt (c >>> (w - (List.map (fun c => D.str { cps := #[c] }) (SX.S (patL c v w w)).cps.toList).length)), nt (v >>> (w - (List.map (fun c => D.str { cps := #[c] }) (SX.S (patL c v w w)).cps.toList).length))]) S'
      rw [e, Nat.sub_self]
      exact q
end WW


set_option Elab.async false
set_option linter.all false
set_option maxRecDepth 100000
set_option maxHeartbeats 4000000
set_option autoImplicit false
namespace WW
open PySem PySem.Spec PyProof.Rows L2
local macro_rules | `(tactic| walk_at "w") => `(tactic| try dsimp only [st_star, st_0, st_1, st_2, st_sp, st_e, en_2, ap_var, ap_cst, ap_op, ap_neg, ap_notV, ap_andV, ap_orV, ap_chain, ap_if, ap_nil, ap_cons, ap_tup, ap_lst, ap_noP, ap_part, ap_slc, ap_call, ap_callX, ap_blt, ap_isi, ap_or, ap_lstR, ap_tupR, ap_dct, ap_fld, ap_mth, ap_mak, ap_fset, ap_forN, ap_met, ap_bits, ap_tst, ap_tsB, ap_notB, ap_andB, ap_orB, ap_yes, ap_lc, ap_sset, ap_asg, ap_asgP, ap_set, ap_drop, ap_ret, ap_retN, ap_brk, ap_cnt, ap_pas, ap_sq, ap_ifS, ap_for, ap_seqI, ap_rng, ap_enum, look, putR, kkOf, rd_int, rd_bl, rd_T, rd_F, rd_nm, rd_tp, rd_nil, rd_cons, rd_gv, rd_trB, rd_srcT, rd_rng1, rd_rng2, rd_notT, rd_notF, rd_wp0, rd_wp1, rd_rg1, rd_rg2, ty_non, ty_bl, ty_int, ty_str, ty_tup, isiB])
/- meet_cubes(one, other): slots one=0 other=1 care=2 value=3 other_care=4 other_value=5 -/
def c_meet_cubes : WS :=
  (wSq (wAsgP (.tp [2, 3]) (wVar 0))
  (wSq (wAsgP (.tp [4, 5]) (wVar 1))
  (wSq (wIfS (wTst (wOp opAnd (wOp opAnd (wOp opXor (wVar 3) (wVar 5)) (wVar 2)) (wVar 4))) (wRet (wCst .non)) wPas)
  (wRet (wTup (wCons (wOp opOr (wVar 2) (wVar 4)) (wCons (wOp opOr (wVar 3) (wVar 5)) wNil)))))))

/- halves(lot, width): slots lot=0 width=1 size=2 -/
def c_halves (p_all_lot : Spec) : WS :=
  (wSq (wAsg 2 (wOp opShl (wCst (.int 1)) (wOp opSub (wVar 1) (wCst (.int 1)))))
  (wRet (wTup (wCons (wOp opAnd (wVar 0) (wCall 1 p_all_lot (wCons (wOp opSub (wVar 1) (wCst (.int 1))) wNil))) (wCons (wOp opShr (wVar 0) (wVar 2)) wNil)))))

/- cubes_of(lot, width): slots lot=0 width=1 found=2 pending=3 part=4 left=5 care=6 value=7 low=8 high=9 bit=10 -/
def c_cubes_of_1 (p_halves : Spec) : WS :=
  (wSq (wAsgP (.tp [4, 5, 6, 7]) (wMet lstTy popM (wVar 3) wNil))
  (wSq (wIfS (wTsB (wOp (cmpD .Eq) (wVar 4) (wCst (.int 0)))) wCnt wPas)
  (wSq (wIfS (wTsB (wOp (cmpD .Eq) (wVar 5) (wCst (.int 0)))) (wSq (wDrop (wMet lstTy appM (wVar 2) (wCons (wTup (wCons (wVar 6) (wCons (wVar 7) wNil))) wNil))) wCnt) wPas)
  (wSq (wAsgP (.tp [8, 9]) (wCall 2 p_halves (wCons (wVar 4) (wCons (wVar 5) wNil))))
  (wSq (wAsg 10 (wOp opShl (wCst (.int 1)) (wOp opSub (wVar 5) (wCst (.int 1)))))
  (wIfS (wTsB (wOp (cmpD .Eq) (wVar 8) (wVar 9))) (wDrop (wMet lstTy appM (wVar 3) (wCons (wTup (wCons (wVar 8) (wCons (wOp opSub (wVar 5) (wCst (.int 1))) (wCons (wVar 6) (wCons (wVar 7) wNil))))) wNil))) (wSq (wDrop (wMet lstTy appM (wVar 3) (wCons (wTup (wCons (wVar 9) (wCons (wOp opSub (wVar 5) (wCst (.int 1))) (wCons (wOp opOr (wVar 6) (wVar 10)) (wCons (wOp opOr (wVar 7) (wVar 10)) wNil))))) wNil))) (wDrop (wMet lstTy appM (wVar 3) (wCons (wTup (wCons (wVar 8) (wCons (wOp opSub (wVar 5) (wCst (.int 1))) (wCons (wOp opOr (wVar 6) (wVar 10)) (wCons (wVar 7) wNil))))) wNil))))))))))
def c_cubes_of (p_halves : Spec) : WS :=
  (wSq (wAsg 2 (wLst wNil))
  (wSq (wAsg 3 (wLst (wCons (wTup (wCons (wVar 0) (wCons (wVar 1) (wCons (wCst (.int 0)) (wCons (wCst (.int 0)) wNil))))) wNil)))
  (wSq (wWhl (wTst (wVar 3)) (c_cubes_of_1 p_halves))
  (wRet (wBlt tupleC (wCons (wVar 2) wNil))))))

/- _law_pick(d, row): slots d=0 row=1 -/
def c_law_pick (p_law_draw : Spec) : WS :=
  (wRet (wOp idxD (wVar 1) (wCall 2 p_law_draw (wCons (wVar 0) (wCons (wBlt lenC (wCons (wVar 1) wNil)) wNil)))))

/- _law_cubes(headers, bits): slots headers=0 bits=1 half=2 low=3 header=4 high=5 first=6 care=7 value=8 -/
def c_law_cubes (p_law_cubes : Spec) : WS :=
  (wSq (wIfS (wTsB (wOp (cmpD .Eq) (wBlt lenC (wCons (wVar 0) wNil)) (wCst (.int 0)))) (wRet (wLst wNil)) wPas)
  (wSq (wIfS (wTsB (wOp (cmpD .Eq) (wBlt lenC (wCons (wVar 0) wNil)) (wOp opShl (wCst (.int 1)) (wVar 1)))) (wRet (wLst (wCons (wTup (wCons (wCst (.int 0)) (wCons (wCst (.int 0)) wNil))) wNil))) wPas)
  (wSq (wAsg 2 (wOp opShl (wCst (.int 1)) (wOp opSub (wVar 1) (wCst (.int 1)))))
  (wSq (wAsg 3 (wLc (wSeqI (wVar 0)) (.nm 4) (wTsB (wOp (cmpD .Lt) (wVar 4) (wVar 2))) (wVar 4) [4]))
  (wSq (wAsg 5 (wLc (wSeqI (wVar 0)) (.nm 4) (wTsB (wOp (cmpD .GtE) (wVar 4) (wVar 2))) (wOp opSub (wVar 4) (wVar 2)) [4]))
  (wSq (wIfS (wTsB (wOp (cmpD .Eq) (wVar 3) (wVar 5))) (wRet (wCall 2 p_law_cubes (wCons (wVar 3) (wCons (wOp opSub (wVar 1) (wCst (.int 1))) wNil)))) wPas)
  (wSq (wAsg 6 (wLc (wSeqI (wCall 2 p_law_cubes (wCons (wVar 3) (wCons (wOp opSub (wVar 1) (wCst (.int 1))) wNil)))) (.tp [7, 8]) wYes (wTup (wCons (wOp opOr (wVar 7) (wVar 2)) (wCons (wVar 8) wNil))) [7, 8]))
  (wRet (wOp opAdd (wVar 6) (wLc (wSeqI (wCall 2 p_law_cubes (wCons (wVar 5) (wCons (wOp opSub (wVar 1) (wCst (.int 1))) wNil)))) (.tp [7, 8]) wYes (wTup (wCons (wOp opOr (wVar 7) (wVar 2)) (wCons (wOp opOr (wVar 8) (wVar 2)) wNil))) [7, 8]))))))))))


def pr2 (p : Nat × Nat) : D := .tup [nt p.1, nt p.2]
def meetD (c v d u : Nat) : D := if (v ^^^ u) &&& c &&& d = 0 then .tup [nt (c ||| d), nt (v ||| u)] else .non
def sp_meet_cubes : Spec := fun ds S Q => ∃ c v d u : Nat, ds = [.tup [nt c, nt v], .tup [nt d, nt u]] ∧ Q (meetD c v d u) S
theorem good_meet_cubes : Good 6 2 c_meet_cubes sp_meet_cubes := by
  intro ds S Q _ h
  obtain ⟨c, v, d, u, rfl, q⟩ := h
  show c_meet_cubes (kkOf Q) [some (.tup [nt c, nt v]), some (.tup [nt d, nt u]), none, none, none, none] S
  unfold c_meet_cubes
  walk_at "w"
  refine n_xor (n_and (n_and (n_tru ?_)))
  unfold meetD at q
  by_cases e : (v ^^^ u) &&& c &&& d = 0
  · rw [decide_eq_true e]
    walk_at "w"
    rw [if_pos e] at q
    exact n_or (n_or ⟨by show 2 ≤ sizeLine; decide, q⟩)
  · rw [decide_eq_false e]
    rw [if_neg e] at q
    exact q
def sp_halves : Spec := fun ds S Q => ∃ L k : Nat, ds = [nt L, nt (k + 1)] ∧ k ≤ 13 ∧ Q (.tup [nt (L &&& allN k), nt (L >>> 2 ^ k)]) S
theorem good_halves : Good 3 2 (c_halves sp_all_lot) sp_halves := by
  intro ds S Q _ h
  obtain ⟨L, k, rfl, hk, q⟩ := h
  show c_halves sp_all_lot (kkOf Q) [some (nt L), some (nt (k + 1)), none] S
  unfold c_halves
  walk_at "w"
  have hp := pow13 hk
  refine n_sub (a := k + 1) (b := 1) (by omega) ?_
  rw [Nat.add_sub_cancel]
  refine n_shl1 (by omega) ?_
  refine n_sub (a := k + 1) (b := 1) (by omega) ?_
  rw [Nat.add_sub_cancel]
  exact callI rfl ⟨k, rfl, hk, n_and (n_shr ⟨by show 2 ≤ sizeLine; decide, q⟩)⟩
abbrev Ent := Nat × Nat × Nat × Nat
def entD (e : Ent) : D := .tup [nt e.1, nt e.2.1, nt e.2.2.1, nt e.2.2.2]
def con (e : Ent) : List (Nat × Nat) := (cubesL e.2.1 e.1).map fun p => (p.1 ||| e.2.2.1, p.2 ||| e.2.2.2)
def totC (st : List Ent) (found : List (Nat × Nat)) : List (Nat × Nat) := found ++ (st.reverse.map con).flatten
def wtS (st : List Ent) : Nat := (st.map fun e => 2 ^ (e.2.1 + 1) - 1).sum
theorem tot_snoc (st : List Ent) (e : Ent) (found : List (Nat × Nat)) : totC (st ++ [e]) found = totC st (found ++ con e) := by
  unfold totC
  rw [List.reverse_append]
  simp
theorem wt_snoc (st : List Ent) (e : Ent) : wtS (st ++ [e]) = wtS st + (2 ^ (e.2.1 + 1) - 1) := by
  unfold wtS
  simp
theorem tot_len (st : List Ent) (found : List (Nat × Nat)) : found.length ≤ (totC st found).length := by
  unfold totC
  simp
theorem wt_len : ∀ st : List Ent, st.length ≤ wtS st
  | [] => Nat.zero_le _
  | e :: r => by
    have := wt_len r
    have h1 : 2 ≤ 2 ^ (e.2.1 + 1) := by
      have : 2 ^ 1 ≤ 2 ^ (e.2.1 + 1) := Nat.pow_le_pow_right (by decide) (by omega)
      exact this
    unfold wtS at *
    rw [List.map_cons, List.sum_cons, List.length_cons]
    omega
theorem con_zero (l c v : Nat) : con (0, l, c, v) = [] := by
  unfold con
  cases l with
  | zero => rfl
  | succ l =>
    show (cubesL (l + 1) 0).map _ = []
    unfold cubesL
    rw [if_pos rfl]
    rfl
theorem con_one {L c v : Nat} (h : L ≠ 0) : con (L, 0, c, v) = [(c, v)] := by
  unfold con
  show (cubesL 0 L).map _ = _
  unfold cubesL
  rw [if_neg h]
  simp
theorem con_same {L l c v : Nat} (h : L ≠ 0) (e : L &&& allN l = L >>> 2 ^ l) : con (L, l + 1, c, v) = con (L &&& allN l, l, c, v) := by
  show (cubesL (l + 1) L).map _ = _
  unfold cubesL
  rw [if_neg h, if_pos e]
  rfl
theorem con_two {L l c v : Nat} (h : L ≠ 0) (e : L &&& allN l ≠ L >>> 2 ^ l) : con (L, l + 1, c, v) = con (L &&& allN l, l, c ||| 2 ^ l, v) ++ con (L >>> 2 ^ l, l, c ||| 2 ^ l, v ||| 2 ^ l) := by
  show (cubesL (l + 1) L).map _ = _
  unfold cubesL
  rw [if_neg h, if_neg e, List.map_append, List.map_map, List.map_map]
  unfold con
  have e1 : ∀ a b d : Nat, (a ||| b) ||| d = a ||| (d ||| b) := fun a b d => by rw [Nat.or_assoc, Nat.or_comm b d]
  congr 1
  · refine List.map_congr_left fun p _ => ?_
    show ((p.1 ||| 2 ^ l) ||| c, p.2 ||| v) = (p.1 ||| (c ||| 2 ^ l), p.2 ||| v)
    rw [e1]
  · refine List.map_congr_left fun p _ => ?_
    show ((p.1 ||| 2 ^ l) ||| c, (p.2 ||| 2 ^ l) ||| v) = (p.1 ||| (c ||| 2 ^ l), p.2 ||| (v ||| 2 ^ l))
    rw [e1, e1]
theorem con_top (L w : Nat) : con (L, w, 0, 0) = cubesL w L := by
  unfold con
  simp
structure CI (S : Sto) (w f p : Nat) (T : List (Nat × Nat)) (st : List Ent) (found : List (Nat × Nat)) (S' : Sto) : Prop where
  hf : S'[f]? = some (.lst (found.map pr2))
  hp : S'[p]? = some (.lst (st.map entD))
  ext : Ext S S'
  nf : S.length ≤ f
  np : S.length ≤ p
  ne : f ≠ p
  ok : ∀ e ∈ st, e.1 < 2 ^ 2 ^ e.2.1 ∧ e.2.1 ≤ w
  tot : totC st found = T
  wt : wtS st ≤ 2 ^ (w + 1)
theorem CI.pushS {S S' : Sto} {w f p : Nat} {T : List (Nat × Nat)} {st : List Ent} {found : List (Nat × Nat)} (C : CI S w f p T (st) found S') (e : Ent) (T' : List (Nat × Nat)) (h1 : e.1 < 2 ^ 2 ^ e.2.1) (h2 : e.2.1 ≤ w) (h3 : totC (st ++ [e]) found = T') (h4 : wtS (st ++ [e]) ≤ 2 ^ (w + 1)) :
    CI S w f p T' (st ++ [e]) found (S'.set p (.lst (st.map entD ++ [entD e]))) :=
  ⟨by rw [set_ne (Ne.symm C.ne)]; exact C.hf, by rw [set_at C.hp, List.map_append]; rfl, C.ext.set C.np, C.nf, C.np, C.ne, fun x hx => by
    rcases List.mem_append.mp hx with z | z
    · exact C.ok x z
    · rw [List.mem_singleton] at z
      subst z
      exact ⟨h1, h2⟩, h3, h4⟩
def sp_cubes_of : Spec := fun ds S Q => ∃ L w : Nat, ds = [nt L, nt w] ∧ w ≤ 13 ∧ L < 2 ^ 2 ^ w ∧ ∀ S', Ext S S' → Q (.tup ((cubesL w L).map pr2)) S'
theorem good_cubes_of : Good 11 2 (c_cubes_of sp_halves) sp_cubes_of := by
  intro ds S Q _ h
  obtain ⟨L, w, rfl, hw, hL, q⟩ := h
  show c_cubes_of sp_halves (kkOf Q) [some (nt L), some (nt w), none, none, none, none, none, none, none, none, none] S
  unfold c_cubes_of
  have hp := pow13 hw
  have hp1 : 2 ^ (w + 1) ≤ 16384 := by rw [Nat.pow_succ]; omega
  refine sq_cut (fun ρ S' => S' = S ++ [.lst []] ∧ ρ = [some (nt L), some (nt w), some (.ref S.length), none, none, none, none, none, none, none, none]) (fun N hN => ?_) (fun ρ S1 hI => ?_)
  · walk_at "w"
    exact ⟨by show 0 ≤ sizeLine; decide, hN _ _ ⟨rfl, rfl⟩⟩
  obtain ⟨rfl, rfl⟩ := hI
  refine sq_cut (fun ρ S' => CI S w S.length (S.length + 1) (cubesL w L) [(L, w, 0, 0)] [] S' ∧ ρ = [some (nt L), some (nt w), some (.ref S.length), some (.ref (S.length + 1)), none, none, none, none, none, none, none]) (fun N hN => ?_) (fun ρ S1 hI => ?_)
  · walk_at "w"
    refine ⟨by show 4 ≤ sizeLine; decide, by show 1 ≤ sizeLine; decide, ?_⟩
    have el : (S ++ [O.lst []]).length = S.length + 1 := by simp
    rw [el]
    refine hN _ _ ⟨⟨?_, ?_, (Ext.push _ _).trans (Ext.push _ _), Nat.le_refl _, Nat.le_succ _, by omega, fun e he => ?_, ?_, ?_⟩, rfl⟩
    · exact Ext.push _ _ _ _ push_at
    · have := push_at (S := S ++ [O.lst []]) (o := .lst [entD (L, w, 0, 0)])
      rw [el] at this
      exact this
    · rw [List.mem_singleton] at he
      subst he
      exact ⟨hL, Nat.le_refl _⟩
    · show [] ++ ([con (L, w, 0, 0)] : List (List (Nat × Nat))).flatten = _
      rw [con_top]
      simp
    · show 2 ^ (w + 1) - 1 + 0 ≤ _
      exact Nat.sub_le _ _
  obtain ⟨C, rfl⟩ := hI
  refine sq_cut (fun ρ S' => ∃ found, found = cubesL w L ∧ Ext S S' ∧ S'[S.length]? = some (.lst (found.map pr2)) ∧ ∃ x y z t a b c d, ρ = [some (nt L), some (nt w), some (.ref S.length), x, y, z, t, a, b, c, d]) (fun N hN => ?_) (fun ρ S2 hI => ?_)
  · refine whl (fun m ρ S' => ∃ st found, wtS st = m ∧ CI S w S.length (S.length + 1) (cubesL w L) st found S' ∧ ∃ y z t a b c d, ρ = [some (nt L), some (nt w), some (.ref S.length), some (.ref (S.length + 1)), y, z, t, a, b, c, d]) ⟨_, _, rfl, C, _, _, _, _, _, _, _, rfl⟩ (fun m ρ S' M hI hM => ?_)
    obtain ⟨st, found, hm, C, y, z, t, a, b, c, d, rfl⟩ := hI
    walk_at "w"
    refine .inl ⟨_, C.hp, ?_⟩
    rcases List.eq_nil_or_concat st with rfl | ⟨st', e, rfl⟩
    · refine hN _ _ ⟨found, ?_, C.ext, C.hf, _, _, _, _, _, _, _, _, rfl⟩
      have := C.tot
      unfold totC at this
      simpa using this
    · rw [List.concat_eq_append] at C hm
      have e1 : (!(List.map entD (st'.concat e)).isEmpty) = true := by simp
      rw [e1]
      walk_at "w"
      obtain ⟨P, l, ca, va⟩ := e
      obtain ⟨hP, hl⟩ : P < 2 ^ 2 ^ l ∧ l ≤ w := C.ok (P, l, ca, va) (by simp)
      have hwt : wtS st' + (2 ^ (l + 1) - 1) ≤ 2 ^ (w + 1) := by
        have := C.wt
        rw [wt_snoc] at this
        exact this
      have C0 : CI S w S.length (S.length + 1) (totC st' found) st' found (S'.set (S.length + 1) (.lst (st'.map entD))) :=
        ⟨by rw [set_ne (by omega)]; exact C.hf, by rw [set_at C.hp], C.ext.set (Nat.le_succ _), C.nf, C.np, C.ne, fun x hx => C.ok x (List.mem_append_left _ hx), rfl, by omega⟩
      have htot := C.tot
      rw [tot_snoc] at htot
      unfold c_cubes_of_1
      refine sq_cut (fun ρ S2 => S2 = S'.set (S.length + 1) (.lst (st'.map entD)) ∧ ρ = [some (nt L), some (nt w), some (.ref S.length), some (.ref (S.length + 1)), some (nt P), some (nt l), some (nt ca), some (nt va), b, c, d]) (fun N' hN' => ?_) (fun ρ S2 hI => ?_)
      · walk_at "w"
        have hp := C.hp
        rw [List.map_append] at hp
        refine ⟨⟨_, hp⟩, _, hp, ?_⟩
        have e2 : (List.map entD st' ++ List.map entD [(P, l, ca, va)])[(List.map entD st' ++ List.map entD [(P, l, ca, va)]).length - 1]? = some (entD (P, l, ca, va)) := by simp
        rw [e2]
        have e3 : (List.map entD st' ++ List.map entD [(P, l, ca, va)]).dropLast = List.map entD st' := by simp
        rw [e3]
        exact hN' _ _ ⟨rfl, rfl⟩
      obtain ⟨rfl, rfl⟩ := hI
      have wsm : wtS st' < m := by
        rw [wt_snoc] at hm
        have : 2 ≤ 2 ^ (l + 1) := by
          have : 2 ^ 1 ≤ 2 ^ (l + 1) := Nat.pow_le_pow_right (by decide) (by omega)
          exact this
        have e0 : 2 ^ ((P, l, ca, va) : Ent).2.1.succ = 2 ^ (l + 1) := rfl
        show wtS st' < m
        have : wtS st' + (2 ^ (l + 1) - 1) = m := hm
        omega
      refine sq_cut (fun ρ S2 => P ≠ 0 ∧ S2 = S'.set (S.length + 1) (.lst (st'.map entD)) ∧ ρ = [some (nt L), some (nt w), some (.ref S.length), some (.ref (S.length + 1)), some (nt P), some (nt l), some (nt ca), some (nt va), b, c, d]) (fun N' hN' => ?_) (fun ρ S2 hI => ?_)
      · walk_at "w"
        refine n_eq (b := 0) ?_
        by_cases e : P = 0
        · rw [decide_eq_true e]
          subst e
          rw [con_zero, List.append_nil] at htot
          refine hM _ _ _ wsm ⟨st', found, rfl, ?_, _, _, _, _, _, _, _, rfl⟩
          rw [← htot]
          exact C0
        · rw [decide_eq_false e]
          exact hN' _ _ ⟨e, rfl, rfl⟩
      obtain ⟨hP0, rfl, rfl⟩ := hI
      refine sq_cut (fun ρ S2 => l ≠ 0 ∧ S2 = S'.set (S.length + 1) (.lst (st'.map entD)) ∧ ρ = [some (nt L), some (nt w), some (.ref S.length), some (.ref (S.length + 1)), some (nt P), some (nt l), some (nt ca), some (nt va), b, c, d]) (fun N' hN' => ?_) (fun ρ S2 hI => ?_)
      · walk_at "w"
        refine n_eq (b := 0) ?_
        by_cases e : l = 0
        · rw [decide_eq_true e]
          subst e
          rw [con_one hP0] at htot
          walk_at "w"
          have hlen : found.length < sizeLine := by
            have h1 := tot_len st' (found ++ [(ca, va)])
            rw [htot, List.length_append] at h1
            have h2 := cubes_len w L
            have h3 : ([(ca, va)] : List (Nat × Nat)).length = 1 := rfl
            exact sz_of' (by omega)
          refine ⟨⟨_, C0.hf⟩, by show 2 ≤ sizeLine; decide, m_app C0.hf (by rw [List.length_map]; exact hlen) ?_⟩
          refine hM _ _ _ wsm ⟨st', found ++ [(ca, va)], rfl, ⟨?_, ?_, C0.ext.set (Nat.le_refl _), C.nf, C.np, C.ne, C0.ok, htot, C0.wt⟩, _, _, _, _, _, _, _, rfl⟩
          · rw [set_at C0.hf, List.map_append]
            rfl
          · rw [set_ne (by omega)]
            exact C0.hp
        · rw [decide_eq_false e]
          exact hN' _ _ ⟨e, rfl, rfl⟩
      obtain ⟨hl0, rfl, rfl⟩ := hI
      obtain ⟨l, rfl⟩ : ∃ k, l = k + 1 := ⟨l - 1, by omega⟩
      walk_at "w"
      refine callI rfl ⟨P, l, rfl, by omega, ?_⟩
      walk_at "w"
      have hp2 : 2 ^ l ≤ 8192 := pow13 (by omega)
      refine n_sub (a := l + 1) (b := 1) (by omega) ?_
      rw [Nat.add_sub_cancel]
      refine n_shl1 (by omega) (n_eq ?_)
      have hlt : st'.length < sizeLine := sz_of' (by
        have := wt_len st'
        omega)
      have pw : 2 ^ (l + 1 + 1) = 2 ^ (l + 1) + 2 ^ (l + 1) := by rw [Nat.pow_succ]; omega
      have pp := Nat.two_pow_pos (l + 1)
      have hwt2 : wtS st' + (2 ^ (l + 1 + 1) - 1) ≤ 2 ^ (w + 1) := hwt
      have hm2 : wtS st' + (2 ^ (l + 1 + 1) - 1) = m := by rw [wt_snoc] at hm; exact hm
      by_cases e : P &&& allN l = P >>> 2 ^ l
      · rw [decide_eq_true e]
        walk_at "w"
        refine ⟨⟨_, C0.hp⟩, n_sub (a := l + 1) (b := 1) (by omega) ?_⟩
        rw [Nat.add_sub_cancel]
        refine ⟨by show 4 ≤ sizeLine; decide, m_app C0.hp (by rw [List.length_map]; exact hlt) ?_⟩
        rw [con_same hP0 e, ← tot_snoc] at htot
        have hx : wtS (st' ++ [(P &&& allN l, l, ca, va)]) = wtS st' + (2 ^ (l + 1) - 1) := wt_snoc _ _
        exact hM _ _ _ (by rw [hx]; omega) ⟨_, found, rfl, C0.pushS (P &&& allN l, l, ca, va) _ lo_lt (by show l ≤ w; have : l + 1 ≤ w := hl; omega) htot (by rw [hx]; omega), _, _, _, _, _, _, _, rfl⟩
      · rw [decide_eq_false e]
        walk_at "w"
        refine ⟨⟨_, C0.hp⟩, ?_⟩
        refine n_sub (a := l + 1) (b := 1) (by omega) ?_
        rw [Nat.add_sub_cancel]
        refine n_or (n_or ⟨by show 4 ≤ sizeLine; decide, m_app C0.hp (by rw [List.length_map]; exact hlt) ?_⟩)
        rw [con_two hP0 e, ← List.append_assoc] at htot
        have hx : wtS (st' ++ [(P >>> 2 ^ l, l, ca ||| 2 ^ l, va ||| 2 ^ l)]) = wtS st' + (2 ^ (l + 1) - 1) := wt_snoc _ _
        have C1 := C0.pushS (P >>> 2 ^ l, l, ca ||| 2 ^ l, va ||| 2 ^ l) _ (hi_lt hP) (by show l ≤ w; have : l + 1 ≤ w := hl; omega) rfl (by rw [hx]; omega)
        refine ⟨⟨_, C1.hp⟩, ?_⟩
        refine n_sub (a := l + 1) (b := 1) (by omega) ?_
        rw [Nat.add_sub_cancel]
        refine n_or ⟨by show 4 ≤ sizeLine; decide, m_app C1.hp (by rw [List.length_map, List.length_append]; exact sz_of' (by have := wt_len st'; simp; omega)) ?_⟩
        have hy : wtS (st' ++ [(P >>> 2 ^ l, l, ca ||| 2 ^ l, va ||| 2 ^ l)] ++ [(P &&& allN l, l, ca ||| 2 ^ l, va)]) = wtS st' + (2 ^ (l + 1) - 1) + (2 ^ (l + 1) - 1) := by rw [wt_snoc, hx]
        refine hM _ _ _ (by rw [hy]; omega) ⟨_, found, rfl, C1.pushS (P &&& allN l, l, ca ||| 2 ^ l, va) _ lo_lt (by show l ≤ w; have : l + 1 ≤ w := hl; omega) ?_ (by rw [hy]; omega), _, _, _, _, _, _, _, rfl⟩
        rw [tot_snoc, tot_snoc]
        exact htot
  obtain ⟨found, hf, hE, hp1, x, y, z, t, a, b, c, d, rfl⟩ := hI
  walk_at "w"
  subst hf
  exact c_tupL hp1 (q _ hE)
end WW


set_option Elab.async false
set_option linter.all false
set_option maxRecDepth 100000
set_option maxHeartbeats 4000000
set_option autoImplicit false
namespace WW
open PySem PySem.Spec PyProof.Rows L2
local macro_rules | `(tactic| walk_at "w") => `(tactic| try dsimp only [st_star, st_0, st_1, st_2, st_sp, st_e, en_2, ap_var, ap_cst, ap_op, ap_neg, ap_notV, ap_andV, ap_orV, ap_chain, ap_if, ap_nil, ap_cons, ap_tup, ap_lst, ap_noP, ap_part, ap_slc, ap_call, ap_callX, ap_blt, ap_isi, ap_or, ap_lstR, ap_tupR, ap_dct, ap_fld, ap_mth, ap_mak, ap_fset, ap_forN, ap_met, ap_bits, ap_tst, ap_tsB, ap_notB, ap_andB, ap_orB, ap_yes, ap_lc, ap_sset, ap_asg, ap_asgP, ap_set, ap_drop, ap_ret, ap_retN, ap_brk, ap_cnt, ap_pas, ap_sq, ap_ifS, ap_for, ap_seqI, ap_rng, ap_enum, look, putR, kkOf, rd_int, rd_bl, rd_T, rd_F, rd_nm, rd_tp, rd_nil, rd_cons, rd_gv, rd_trB, rd_srcT, rd_rng1, rd_rng2, rd_notT, rd_notF, rd_wp0, rd_wp1, rd_rg1, rd_rg2, ty_non, ty_bl, ty_int, ty_str, ty_tup, isiB])
/- _law_headers(d, width): slots d=0 width=1 way=2 many=3 header=4 cubes=5 step=6 cube=7 -/
def c_law_headers (p_law_draw : Spec) (p_law_pick : Spec) (p_law_cube : Spec) : WS :=
  (wSq (wAsg 2 (wCall 2 p_law_draw (wCons (wVar 0) (wCons (wCst (.int 5)) wNil))))
  (wSq (wAsg 3 (wOp opShl (wCst (.int 1)) (wVar 1)))
  (wSq (wIfS (wTsB (wOp (cmpD .Eq) (wVar 2) (wCst (.int 0)))) (wRet (wLc (wRng (wCons (wVar 3) wNil)) (.nm 4) (wTsB (wOp (cmpD .Eq) (wCall 2 p_law_draw (wCons (wVar 0) (wCons (wCst (.int 2)) wNil))) (wCst (.int 0)))) (wVar 4) [4])) wPas)
  (wSq (wIfS (wTsB (wOp (cmpD .Eq) (wVar 2) (wCst (.int 1)))) (wRet (wLst (wCons (wCall 2 p_law_draw (wCons (wVar 0) (wCons (wVar 3) wNil))) wNil))) wPas)
  (wSq (wIfS (wTsB (wOp (cmpD .Eq) (wVar 2) (wCst (.int 2)))) (wRet (wCall 2 p_law_pick (wCons (wVar 0) (wCons (wLst (wCons (wLst wNil) (wCons (wLstR (wCons (wVar 3) wNil)) wNil))) wNil)))) wPas)
  (wSq (wAsg 5 (wLc (wRng (wCons (wOp opAdd (wCst (.int 1)) (wCall 2 p_law_draw (wCons (wVar 0) (wCons (wCst (.int 3)) wNil)))) wNil)) (.nm 6) wYes (wCall 2 p_law_cube (wCons (wVar 0) (wCons (wVar 1) wNil))) [6]))
  (wRet (wLc (wRng (wCons (wVar 3) wNil)) (.nm 4) (wTsB (wOp (cmpD .NotEq) (wLc (wSeqI (wVar 5)) (.nm 7) (wTsB (wOp (cmpD .Eq) (wOp opAnd (wVar 4) (wOp idxD (wVar 7) (wCst (.int 0)))) (wOp idxD (wVar 7) (wCst (.int 1))))) (wVar 7) [7]) (wLst wNil))) (wVar 4) [4]))))))))


/-! ### pick, own cubes, headers -/
def sp_law_pick : Spec := fun ds S Q => ∃ (n r : Nat) (xs : List D), ds = [.ref n, .ref r] ∧ r ≠ n ∧ DrawS S n ∧ S[r]? = some (.lst xs) ∧ 0 < xs.length ∧ xs.length < 2 ^ 8999 ∧ ∀ (i : Nat) (x : D) S', xs[i]? = some x → DrawS S' n → Only1 n S S' → Q x S'
theorem good_law_pick : Good 2 2 (c_law_pick sp_law_draw) sp_law_pick := by
  intro ds S Q _ h
  obtain ⟨n, r, xs, rfl, hr, hD, hx, h0, hb, q⟩ := h
  show c_law_pick sp_law_draw (kkOf Q) [some (.ref n), some (.ref r)] S
  unfold c_law_pick
  walk_at "w"
  refine c_lenL hx (callI rfl ⟨n, xs.length, rfl, hD, hb, fun i S' g1 g2 g3 g4 => ?_⟩)
  have hi := draw_lt g1 g2 h0
  have e : xs[i]? = some xs[i] := List.getElem?_eq_getElem hi
  exact i_ref (by rw [g4.2 r hr]; exact hx) (atI_nat e) (q i _ S' e g3 g4)
/-! the cubes of a list of headers -/
def sp_law_cubesN (n : Nat) : Spec := fun ds S Q => ∃ (r bits : Nat) (hs : List Nat), ds = [.ref r, nt bits] ∧ bits ≤ n ∧ bits ≤ 13 ∧ S[r]? = some (.lst (hs.map nt)) ∧ Asc hs (2 ^ bits) ∧
  ∀ p S', Ext S S' → S.length ≤ p → S'[p]? = some (.lst ((cubesL bits (ofL hs)).map pr2)) → Q (.ref p) S'
def rec_law_cubes : Nat → Spec
  | 0 => sp_no
  | n + 1 => sp_law_cubesN n
theorem asc_full {hs : List Nat} {n : Nat} (h : Asc hs n) (hl : hs.length = n) : hs = List.range n := by
  have e : hdrs n (ofL hs) = hs := hdrs_ofL h.1 h.2
  have := e
  unfold hdrs at this
  have h2 : ((List.range n).filter (ofL hs).testBit).length = (List.range n).length := by rw [this, hl, List.length_range]
  rw [← this]
  exact List.filter_eq_self.mpr (List.length_filter_eq_length_iff.mp h2)
theorem low_list {hs : List Nat} {w : Nat} (h : Asc hs (2 ^ (w + 1))) : Asc (hs.filter fun h => decide (h < 2 ^ w)) (2 ^ w) ∧ ofL (hs.filter fun h => decide (h < 2 ^ w)) = ofL hs &&& allN w :=
  ⟨⟨List.Pairwise.filter _ h.1, fun x hx => of_decide_eq_true (List.mem_filter.mp hx).2⟩, bit_ext fun i => by
    rw [lo_bit, ofL_bit, ofL_bit, Bool.eq_iff_iff]
    simp only [Bool.and_eq_true, decide_eq_true_eq, List.mem_filter]
    exact And.comm⟩
theorem high_list {hs : List Nat} {w : Nat} (h : Asc hs (2 ^ (w + 1))) : Asc ((hs.filter fun h => decide (2 ^ w ≤ h)).map fun h => h - 2 ^ w) (2 ^ w) ∧ ofL ((hs.filter fun h => decide (2 ^ w ≤ h)).map fun h => h - 2 ^ w) = ofL hs >>> 2 ^ w := by
  have e : 2 ^ (w + 1) = 2 ^ w + 2 ^ w := by rw [Nat.pow_succ]; omega
  refine ⟨⟨?_, fun x hx => ?_⟩, bit_ext fun i => ?_⟩
  · rw [List.pairwise_map]
    refine List.Pairwise.imp_of_mem (fun {a b} ha hb q => ?_) (List.Pairwise.filter _ h.1)
    have := of_decide_eq_true (List.mem_filter.mp ha).2
    have := of_decide_eq_true (List.mem_filter.mp hb).2
    omega
  · obtain ⟨y, hy, rfl⟩ := List.mem_map.mp hx
    have := h.2 y (List.mem_filter.mp hy).1
    have := of_decide_eq_true (List.mem_filter.mp hy).2
    omega
  · rw [hi_bit, ofL_bit, ofL_bit, decide_eq_decide, List.mem_map]
    constructor
    · rintro ⟨y, hy, rfl⟩
      obtain ⟨h1, h2⟩ := List.mem_filter.mp hy
      have := of_decide_eq_true h2
      rw [show 2 ^ w + (y - 2 ^ w) = y by omega]
      exact h1
    · intro hm
      exact ⟨2 ^ w + i, List.mem_filter.mpr ⟨hm, decide_eq_true (Nat.le_add_right _ _)⟩, by omega⟩
/-- a list that a comprehension makes by going over a list of naturals -/
theorem lcN {r : Nat} {hs : List Nat} {t : WT} {e : W} {ρ0 : Rho} {Q : Q1} {S : Sto} {i : Nat} {c : Nat → Bool} {f : Nat → D} (hr : S[r]? = some (.lst (hs.map nt))) (hl : hs.length < sizeLine)
    (ht : ∀ h ∈ hs, ∀ (Q : Bool → Sto → Prop), Q (c h) S → t (noX, putR ρ0 i (some (nt h))) S Q) (he : ∀ h ∈ hs, c h = true → ∀ (Q : Q1), Q (f h) S → e (noX, putR ρ0 i (some (nt h))) S Q) (q : Q (.ref S.length) (S ++ [.lst ((hs.filter c).map f)])) :
    lcGo (fun S' => S'[r]? = some (.lst (hs.map nt))) (.nm i) t e ρ0 Q (hs.map nt) [] S := by
  refine lcI (fun k acc S' => S' = S ∧ acc = ((hs.take k).filter c).map f) ⟨rfl, rfl⟩ (fun k x acc S' N hx hI hN => ?_) (fun acc S' hI => ?_)
  · obtain ⟨rfl, rfl⟩ := hI
    refine ⟨hr, ?_⟩
    rw [List.getElem?_map] at hx
    cases hxi : hs[k]? with
    | none => rw [hxi] at hx; cases hx
    | some h =>
      rw [hxi] at hx
      cases hx
      have hm := List.mem_of_getElem? hxi
      refine ht h hm _ ?_
      have hk := (List.getElem?_eq_some_iff.mp hxi).1
      cases hb : c h with
      | true =>
        rw [if_pos rfl]
        refine he h hm hb _ ⟨?_, hN _ _ ⟨rfl, ?_⟩⟩
        · rw [List.length_map]
          have := List.length_filter_le c (hs.take k)
          rw [List.length_take] at this
          omega
        · rw [take_succ hxi, List.filter_append, List.map_append]
          simp [hb]
      | false =>
        rw [if_neg Bool.false_ne_true]
        refine hN _ _ ⟨rfl, ?_⟩
        rw [take_succ hxi, List.filter_append, List.map_append]
        simp [hb]
  · obtain ⟨rfl, rfl⟩ := hI
    refine ⟨hr, ?_⟩
    rw [List.length_map, List.take_length]
    exact q
/-- [(..) for care, value in list of pairs] -/
theorem lcP {r : Nat} {ps : List (Nat × Nat)} {e : W} {ρ0 : Rho} {Q : Q1} {S : Sto} {i j : Nat} {f : Nat × Nat → D} (hr : S[r]? = some (.lst (ps.map pr2))) (hl : ps.length < sizeLine)
    (he : ∀ p ∈ ps, ∀ (Q : Q1), Q (f p) S → e (noX, putR (putR ρ0 i (some (nt p.1))) j (some (nt p.2))) S Q) (q : Q (.ref S.length) (S ++ [.lst (ps.map f)])) :
    lcGo (fun S' => S'[r]? = some (.lst (ps.map pr2))) (.tp [i, j]) wYes e ρ0 Q (ps.map pr2) [] S := by
  refine lcI (fun k acc S' => S' = S ∧ acc = (ps.take k).map f) ⟨rfl, rfl⟩ (fun k x acc S' N hx hI hN => ?_) (fun acc S' hI => ?_)
  · obtain ⟨rfl, rfl⟩ := hI
    refine ⟨hr, ?_⟩
    rw [List.getElem?_map] at hx
    cases hxi : ps[k]? with
    | none => rw [hxi] at hx; cases hx
    | some p =>
      rw [hxi] at hx
      cases hx
      have hk := (List.getElem?_eq_some_iff.mp hxi).1
      show e (noX, putR (putR ρ0 i (some (nt p.1))) j (some (nt p.2))) S' _
      refine he p (List.mem_of_getElem? hxi) _ ⟨?_, hN _ _ ⟨rfl, ?_⟩⟩
      · rw [List.length_map, List.length_take]
        omega
      · rw [take_succ hxi, List.map_append]
        rfl
  · obtain ⟨rfl, rfl⟩ := hI
    refine ⟨hr, ?_⟩
    rw [List.length_map, List.take_length]
    exact q
theorem good_law_cubes (n : Nat) : Good 9 2 (c_law_cubes (rec_law_cubes n)) (sp_law_cubesN n) := by
  intro ds S Q _ h
  obtain ⟨r, bits, hs, rfl, hn, hb, hr, hA, q⟩ := h
  show c_law_cubes (rec_law_cubes n) (kkOf Q) [some (.ref r), some (nt bits), none, none, none, none, none, none, none] S
  unfold c_law_cubes
  have hp := pow13 hb
  have hlen := hA.len
  have hsz : hs.length < sizeLine := sz_of' (by omega)
  refine sq_cut (fun ρ S' => S' = S ∧ hs.length ≠ 0 ∧ ρ = [some (.ref r), some (nt bits), none, none, none, none, none, none, none]) (fun N hN => ?_) (fun ρ S1 hI => ?_)
  · walk_at "w"
    refine c_lenL hr ?_
    rw [List.length_map]
    refine n_eq (b := 0) ?_
    by_cases e : hs.length = 0
    · rw [decide_eq_true e]
      walk_at "w"
      have : hs = [] := List.eq_nil_of_length_eq_zero e
      subst this
      refine ⟨by show 0 ≤ sizeLine; decide, q _ _ (Ext.push _ _) (Nat.le_refl _) ?_⟩
      rw [push_at]
      cases bits <;> rfl
    · rw [decide_eq_false e]
      exact hN _ _ ⟨rfl, e, rfl⟩
  obtain ⟨rfl, h0, rfl⟩ := hI
  refine sq_cut (fun ρ S' => S' = S1 ∧ hs.length ≠ 2 ^ bits ∧ ρ = [some (.ref r), some (nt bits), none, none, none, none, none, none, none]) (fun N hN => ?_) (fun ρ S1 hI => ?_)
  · walk_at "w"
    refine c_lenL hr ?_
    rw [List.length_map]
    refine n_shl1 (by omega) (n_eq ?_)
    by_cases e : hs.length = 2 ^ bits
    · rw [decide_eq_true e]
      walk_at "w"
      have := asc_full hA e
      subst this
      refine ⟨by show 2 ≤ sizeLine; decide, by show 1 ≤ sizeLine; decide, q _ _ (Ext.push _ _) (Nat.le_refl _) ?_⟩
      rw [push_at]
      have e2 : ofL (List.range (2 ^ bits)) = allN bits := bit_ext fun i => by
        rw [ofL_bit, all_bit, decide_eq_decide, List.mem_range]
      rw [e2, cubes_full]
      rfl
    · rw [decide_eq_false e]
      exact hN _ _ ⟨rfl, e, rfl⟩
  obtain ⟨rfl, h1, rfl⟩ := hI
  obtain ⟨w, rfl⟩ : ∃ w, bits = w + 1 := by
    cases bits with
    | zero => exact absurd (show hs.length = 1 by simp at hlen; omega) h1
    | succ w => exact ⟨w, rfl⟩
  obtain ⟨m, rfl⟩ : ∃ m, n = m + 1 := ⟨n - 1, by omega⟩
  have hpw : 2 ^ w ≤ 8192 := pow13 (by omega)
  obtain ⟨hAl, hel⟩ := low_list hA
  obtain ⟨hAh, heh⟩ := high_list hA
  refine sq_cut (fun ρ S' => S' = S1 ∧ ρ = [some (.ref r), some (nt (w + 1)), some (nt (2 ^ w)), none, none, none, none, none, none]) (fun N hN => ?_) (fun ρ S2 hI => ?_)
  · walk_at "w"
    refine n_sub (a := w + 1) (b := 1) (by omega) ?_
    rw [Nat.add_sub_cancel]
    exact n_shl1 (by omega) (hN _ _ ⟨rfl, rfl⟩)
  obtain ⟨rfl, rfl⟩ := hI
  refine sq_cut (fun ρ S' => ∃ p, S2.length ≤ p ∧ Ext S2 S' ∧ S'[p]? = some (.lst ((hs.filter fun h => decide (h < 2 ^ w)).map nt)) ∧ ρ = [some (.ref r), some (nt (w + 1)), some (nt (2 ^ w)), some (.ref p), none, none, none, none, none]) (fun N hN => ?_) (fun ρ S3 hI => ?_)
  · walk_at "w"
    refine ⟨_, hr, ?_⟩
    refine lcN (c := fun h => decide (h < 2 ^ w)) (f := nt) hr hsz (fun h hm Q hQ => ?_) (fun h hm _ Q hQ => ?_) (hN _ _ ⟨S2.length, Nat.le_refl _, Ext.push _ _, push_at, rfl⟩)
    · walk_at "w"
      exact n_lt hQ
    · exact hQ
  obtain ⟨p, hpn, hE, hp1, rfl⟩ := hI
  have hr3 := hE _ _ hr
  refine sq_cut (fun ρ S' => ∃ u, S2.length ≤ u ∧ Ext S3 S' ∧ S'[u]? = some (.lst ((((hs.filter fun h => decide (2 ^ w ≤ h)).map fun h => h - 2 ^ w)).map nt)) ∧ ρ = [some (.ref r), some (nt (w + 1)), some (nt (2 ^ w)), some (.ref p), none, some (.ref u), none, none, none]) (fun N hN => ?_) (fun ρ S4 hI => ?_)
  · walk_at "w"
    refine ⟨_, hr3, ?_⟩
    refine lcN (c := fun h => decide (2 ^ w ≤ h)) (f := fun h => nt (h - 2 ^ w)) hr3 hsz (fun h hm Q hQ => ?_) (fun h hm hc Q hQ => ?_) (hN _ _ ⟨S3.length, hE.len, Ext.push _ _, ?_, rfl⟩)
    · walk_at "w"
      refine i_ge ?_
      have e : decide (((2 ^ w : Nat) : Int) ≤ (h : Int)) = decide (2 ^ w ≤ h) := by rw [decide_eq_decide]; omega
      rw [e]
      exact hQ
    · walk_at "w"
      exact n_sub (of_decide_eq_true hc) hQ
    · rw [push_at, List.map_map]
      rfl
  obtain ⟨u, hun, hE4, hu, rfl⟩ := hI
  have hp4 := hE4 _ _ hp1
  have E04 := hE.trans hE4
  have hcl : ∀ L, (cubesL w L).length < sizeLine := fun L => sz_of' (by have := cubes_len w L; omega)
  refine sq_cut (fun ρ S' => S' = S4 ∧ ofL hs &&& allN w ≠ ofL hs >>> 2 ^ w ∧ ρ = [some (.ref r), some (nt (w + 1)), some (nt (2 ^ w)), some (.ref p), none, some (.ref u), none, none, none]) (fun N hN => ?_) (fun ρ S5 hI => ?_)
  · walk_at "w"
    refine l_eq hp4 hu ?_
    have hL0 : ofL hs ≠ 0 := fun z => h0 (by
      have := hdrs_ofL hA.1 hA.2
      rw [z, hdrs_zero] at this
      rw [← this]
      rfl)
    by_cases e : (hs.filter fun h => decide (h < 2 ^ w)) = ((hs.filter fun h => decide (2 ^ w ≤ h)).map fun h => h - 2 ^ w)
    · rw [decide_eq_true e]
      walk_at "w"
      refine n_sub (a := w + 1) (b := 1) (by omega) ?_
      rw [Nat.add_sub_cancel]
      refine callI rfl ⟨p, w, _, rfl, by omega, by omega, hp4, hAl, fun p' S' hE' hp' hS' => q p' S' (E04.trans hE') (Nat.le_trans E04.len hp') ?_⟩
      rw [hS', hel]
      have e2 : ofL hs &&& allN w = ofL hs >>> 2 ^ w := by rw [← hel, ← heh, e]
      show _ = some (O.lst ((cubesL (w + 1) (ofL hs)).map pr2))
      conv => rhs; unfold cubesL
      rw [if_neg hL0, if_pos e2]
    · rw [decide_eq_false e]
      refine hN _ _ ⟨rfl, fun z => e ?_, rfl⟩
      rw [← hel, ← heh] at z
      have k1 := hdrs_ofL hAl.1 hAl.2
      have k2 := hdrs_ofL hAh.1 hAh.2
      rw [← k1, ← k2, z]
  obtain ⟨rfl, hne, rfl⟩ := hI
  have hL0 : ofL hs ≠ 0 := fun z => hne (by rw [z]; simp)
  refine sq_cut (fun ρ S' => ∃ a, S2.length ≤ a ∧ Ext S5 S' ∧ S'[a]? = some (.lst ((cubesL w (ofL hs &&& allN w)).map fun p => pr2 (p.1 ||| 2 ^ w, p.2))) ∧ ρ = [some (.ref r), some (nt (w + 1)), some (nt (2 ^ w)), some (.ref p), none, some (.ref u), some (.ref a), none, none]) (fun N hN => ?_) (fun ρ S6 hI => ?_)
  · walk_at "w"
    refine n_sub (a := w + 1) (b := 1) (by omega) ?_
    rw [Nat.add_sub_cancel]
    refine callI rfl ⟨p, w, _, rfl, by omega, by omega, hp4, hAl, fun a S' hE' ha hS' => ?_⟩
    rw [hel] at hS'
    refine ⟨_, hS', ?_⟩
    refine lcP (f := fun p => pr2 (p.1 ||| 2 ^ w, p.2)) hS' (hcl _) (fun p hm Q hQ => ?_) (hN _ _ ⟨S'.length, Nat.le_trans E04.len hE'.len, hE'.trans (Ext.push _ _), push_at, rfl⟩)
    walk_at "w"
    exact n_or ⟨by show 2 ≤ sizeLine; decide, hQ⟩
  obtain ⟨a, han, hE6, ha, rfl⟩ := hI
  have hu6 := hE6 _ _ hu
  walk_at "w"
  refine n_sub (a := w + 1) (b := 1) (by omega) ?_
  rw [Nat.add_sub_cancel]
  refine callI rfl ⟨u, w, _, rfl, by omega, by omega, hu6, hAh, fun b S' hE' hb' hS' => ?_⟩
  rw [heh] at hS'
  refine ⟨_, hS', ?_⟩
  have ha' := hE' _ _ ha
  refine lcP (f := fun p => pr2 (p.1 ||| 2 ^ w, p.2 ||| 2 ^ w)) hS' (hcl _) (fun p hm Q hQ => ?_) ?_
  · walk_at "w"
    exact n_or (n_or ⟨by show 2 ≤ sizeLine; decide, hQ⟩)
  refine ⟨_, _, Ext.push _ _ _ _ ha', push_at, ?_, ?_⟩
  · rw [List.length_map, List.length_map]
    have := cubes_len w (ofL hs &&& allN w)
    have := cubes_len w (ofL hs >>> 2 ^ w)
    exact Nat.le_of_lt (sz_of' (by omega))
  refine q _ _ ((((E04.trans hE6).trans hE').trans (Ext.push _ _)).trans (Ext.push _ _)) ?_ ?_
  · have := ((E04.trans hE6).trans hE').len
    simp
    omega
  · rw [push_at]
    conv => rhs; unfold cubesL
    rw [if_neg hL0, if_neg hne, List.map_append, List.map_map, List.map_map]
    rfl
end WW


set_option Elab.async false
set_option linter.all false
set_option maxRecDepth 100000
set_option maxHeartbeats 4000000
set_option autoImplicit false
namespace WW
open PySem PySem.Spec PyProof.Rows L2
local macro_rules | `(tactic| walk_at "w") => `(tactic| try dsimp only [st_star, st_0, st_1, st_2, st_sp, st_e, en_2, ap_var, ap_cst, ap_op, ap_neg, ap_notV, ap_andV, ap_orV, ap_chain, ap_if, ap_nil, ap_cons, ap_tup, ap_lst, ap_noP, ap_part, ap_slc, ap_call, ap_callX, ap_blt, ap_isi, ap_or, ap_lstR, ap_tupR, ap_dct, ap_fld, ap_mth, ap_mak, ap_fset, ap_forN, ap_met, ap_bits, ap_tst, ap_tsB, ap_notB, ap_andB, ap_orB, ap_yes, ap_lc, ap_sset, ap_asg, ap_asgP, ap_set, ap_drop, ap_ret, ap_retN, ap_brk, ap_cnt, ap_pas, ap_sq, ap_ifS, ap_for, ap_seqI, ap_rng, ap_enum, look, putR, kkOf, rd_int, rd_bl, rd_T, rd_F, rd_nm, rd_tp, rd_nil, rd_cons, rd_gv, rd_trB, rd_srcT, rd_rng1, rd_rng2, rd_notT, rd_notF, rd_wp0, rd_wp1, rd_rg1, rd_rg2, ty_non, ty_bl, ty_int, ty_str, ty_tup, isiB])

/-- a comprehension that leaves the store as it is -/
theorem lcG {α : Type} {st : Sto → Prop} {xs : List α} {g : α → D} {p : Pat} {bnd : α → Rho} {t : WT} {e : W} {ρ0 : Rho} {Q : Q1} {S : Sto} {c : α → Bool} {f : α → D} (hb : ∀ x ∈ xs, bindP p (g x) ρ0 = some (bnd x)) (hst : st S) (hl : xs.length < sizeLine)
    (ht : ∀ x ∈ xs, ∀ (Q : Bool → Sto → Prop), Q (c x) S → t (noX, bnd x) S Q) (he : ∀ x ∈ xs, c x = true → ∀ (Q : Q1), Q (f x) S → e (noX, bnd x) S Q) (q : Q (.ref S.length) (S ++ [.lst ((xs.filter c).map f)])) : lcGo st p t e ρ0 Q (xs.map g) [] S := by
  refine lcI (fun k acc S' => S' = S ∧ acc = ((xs.take k).filter c).map f) ⟨rfl, rfl⟩ (fun k x acc S' N hx hI hN => ?_) (fun acc S' hI => ?_)
  · obtain ⟨rfl, rfl⟩ := hI
    refine ⟨hst, ?_⟩
    rw [List.getElem?_map] at hx
    cases hxi : xs[k]? with
    | none => rw [hxi] at hx; cases hx
    | some h =>
      rw [hxi] at hx
      cases hx
      have hm := List.mem_of_getElem? hxi
      rw [hb h hm]
      refine ht h hm _ ?_
      have hk := (List.getElem?_eq_some_iff.mp hxi).1
      cases hb : c h with
      | true =>
        rw [if_pos rfl]
        refine he h hm hb _ ⟨?_, hN _ _ ⟨rfl, ?_⟩⟩
        · rw [List.length_map]
          have := List.length_filter_le c (xs.take k)
          rw [List.length_take] at this
          omega
        · rw [take_succ hxi, List.filter_append, List.map_append]
          simp [hb]
      | false =>
        rw [if_neg Bool.false_ne_true]
        refine hN _ _ ⟨rfl, ?_⟩
        rw [take_succ hxi, List.filter_append, List.map_append]
        simp [hb]
  · obtain ⟨rfl, rfl⟩ := hI
    refine ⟨hst, ?_⟩
    rw [List.length_map, List.take_length]
    exact q
theorem pr2_T (ps : List (Nat × Nat)) : ps.map pr2 = T.ds (ps.map T.pr) := by
  rw [T.ds_map]
  rfl
theorem l_neP {p q : Nat} {xs ys : List (Nat × Nat)} {S : Sto} {Q : Q1} (h1 : S[p]? = some (.lst (xs.map pr2))) (h2 : S[q]? = some (.lst (ys.map pr2))) (k : Q (.bl (!decide (xs = ys))) S) : cmpD .NotEq (.ref p) (.ref q) S Q := by
  rw [pr2_T] at h1 h2
  refine T.cmpL (neg := true) h1 h2 (T.fits_map (fun _ => rfl) _) (T.fits_map (fun _ => rfl) _) fun b hb => ?_
  have : b = decide (xs = ys) := by
    rw [Bool.eq_iff_iff, hb, decide_eq_true_eq, map_inj fun x y => T.pr_inj.mp]
  rw [this]
  exact k
def sp_law_headers : Spec := fun ds S Q => ∃ n w : Nat, ds = [.ref n, nt w] ∧ DrawS S n ∧ w ≤ 6 ∧ ∀ (r : Nat) (hs : List Nat) S', DrawS S' n → S'[r]? = some (.lst (hs.map nt)) → Asc hs (2 ^ w) → Q (.ref r) S'
theorem good_law_headers : Good 8 2 (c_law_headers sp_law_draw sp_law_pick sp_law_cube) sp_law_headers := by
  intro ds S Q _ h
  obtain ⟨n, w, rfl, hD, hw, q⟩ := h
  show c_law_headers sp_law_draw sp_law_pick sp_law_cube (kkOf Q) [some (.ref n), some (nt w), none, none, none, none, none, none] S
  unfold c_law_headers
  have hp := pow13 (show w ≤ 13 by omega)
  have hp0 := Nat.two_pow_pos w
  have hbig : 2 ^ w < 2 ^ 8999 := Nat.pow_lt_pow_right (by decide) (by omega)
  refine sq_cut (fun ρ S' => DrawS S' n ∧ ∃ way : Nat, ρ = [some (.ref n), some (nt w), some (nt way), none, none, none, none, none]) (fun N hN => ?_) (fun ρ S1 hI => ?_)
  · walk_at "w"
    exact callI rfl ⟨n, 5, rfl, hD, lt_big (n := 3) (by decide) (by decide), fun r S1 g1 g2 g3 g4 => hN _ _ ⟨g3, r, rfl⟩⟩
  obtain ⟨hD, way, rfl⟩ := hI
  refine sq_cut (fun ρ S' => S' = S1 ∧ ρ = [some (.ref n), some (nt w), some (nt way), some (nt (2 ^ w)), none, none, none, none]) (fun N hN => ?_) (fun ρ S2 hI => ?_)
  · walk_at "w"
    exact n_shl1 (by omega) (hN _ _ ⟨rfl, rfl⟩)
  obtain ⟨rfl, rfl⟩ := hI
  refine sq_cut (fun ρ S' => S' = S2 ∧ ρ = [some (.ref n), some (nt w), some (nt way), some (nt (2 ^ w)), none, none, none, none]) (fun N hN => ?_) (fun ρ S3 hI => ?_)
  · walk_at "w"
    refine n_eq (b := 0) ?_
    walk_at "w"
    cases decide (way = 0) with
    | false => exact hN _ _ ⟨rfl, rfl⟩
    | true =>
      walk_at "w"
      refine ⟨by omega, ?_⟩
      rw [Int.toNat_natCast]
      refine lcR (fun i acc S' => DrawS S' n ∧ ∃ hs : List Nat, Asc hs i ∧ acc = hs.map nt) ⟨hD, [], Asc.nil 0, rfl⟩ (fun i acc S' N hi hI hN => ?_) (fun acc S' hI => ?_)
      · obtain ⟨hD, hs, hA, rfl⟩ := hI
        rw [Int.zero_add]
        walk_at "w"
        refine callI rfl ⟨n, 2, rfl, hD, lt_big (n := 2) (by decide) (by decide), fun r S1 g1 g2 g3 g4 => n_eq (b := 0) ?_⟩
        walk_at "w"
        cases decide (r = 0) with
        | true =>
          refine ⟨?_, hN _ _ ⟨g3, hs ++ [i], hA.snoc, by rw [List.map_append]; rfl⟩⟩
          rw [List.length_map]
          have := hA.len
          exact sz_of' (by omega)
        | false => exact hN _ _ ⟨g3, hs, hA.up, rfl⟩
      · obtain ⟨hD, hs, hA, rfl⟩ := hI
        exact q _ hs _ (hD.ext (Ext.push _ _)) push_at hA
  obtain ⟨rfl, rfl⟩ := hI
  refine sq_cut (fun ρ S' => S' = S3 ∧ ρ = [some (.ref n), some (nt w), some (nt way), some (nt (2 ^ w)), none, none, none, none]) (fun N hN => ?_) (fun ρ S4 hI => ?_)
  · walk_at "w"
    refine n_eq (b := 1) ?_
    walk_at "w"
    cases decide (way = 1) with
    | false => exact hN _ _ ⟨rfl, rfl⟩
    | true =>
      walk_at "w"
      refine callI rfl ⟨n, 2 ^ w, rfl, hD, hbig, fun r S1 g1 g2 g3 g4 => ?_⟩
      refine ⟨by show 1 ≤ sizeLine; decide, q _ [r] _ (g3.ext (Ext.push _ _)) push_at ⟨List.pairwise_singleton _ _, fun x hx => ?_⟩⟩
      rw [List.mem_singleton] at hx
      subst hx
      exact draw_lt g1 g2 hp0
  obtain ⟨rfl, rfl⟩ := hI
  refine sq_cut (fun ρ S' => S' = S4 ∧ ρ = [some (.ref n), some (nt w), some (nt way), some (nt (2 ^ w)), none, none, none, none]) (fun N hN => ?_) (fun ρ S5 hI => ?_)
  · walk_at "w"
    refine n_eq (b := 2) ?_
    walk_at "w"
    cases decide (way = 2) with
    | false => exact hN _ _ ⟨rfl, rfl⟩
    | true =>
      walk_at "w"
      refine ⟨by show 0 ≤ sizeLine; decide, RgOk.of_le (by decide) (by omega) (by decide) (by omega), by show 2 ≤ sizeLine; decide, ?_⟩
      have e1 := Ext.push S4 (.lst [])
      have e2 := Ext.push (S4 ++ [.lst []]) (.lst (rgD 0 (2 ^ w : Nat)))
      have e3 := Ext.push (S4 ++ [.lst []] ++ [.lst (rgD 0 (2 ^ w : Nat))]) (.lst [.ref S4.length, .ref (S4 ++ [O.lst []]).length])
      have hlt := hD.lt
      refine callI rfl ⟨n, _, _, rfl, ?_, hD.ext ((e1.trans e2).trans e3), push_at, by show 0 < 2; decide, lt_big (n := 2) (show 2 < 2 ^ 2 by decide) (by decide), fun i x S' hx hD' ho => ?_⟩
      · simp; omega
      have a1 : S'[S4.length]? = some (.lst []) := by
        rw [ho.2 _ (by omega)]
        exact (e2.trans e3) _ _ push_at
      have a2 : S'[(S4 ++ [O.lst []]).length]? = some (.lst (rgD 0 (2 ^ w : Nat))) := by
        rw [ho.2 _ (by simp; omega)]
        exact e3 _ _ push_at
      match i, hx with
      | 0, hx =>
        cases hx
        exact q _ [] _ hD' a1 ⟨List.Pairwise.nil, fun _ h => nomatch h⟩
      | 1, hx =>
        cases hx
        refine q _ (List.range (2 ^ w)) _ hD' ?_ ⟨List.pairwise_lt_range, fun x hx => List.mem_range.mp hx⟩
        rw [a2]
        unfold rgD
        rw [Int.sub_zero, Int.toNat_natCast]
        congr 2
        refine List.map_congr_left fun i _ => ?_
        rw [Int.zero_add]
      | i + 2, hx => cases hx
  obtain ⟨rfl, rfl⟩ := hI
  refine sq_cut (fun ρ S' => DrawS S' n ∧ ∃ (b : Nat) (ps : List (Nat × Nat)), ps.length ≤ 4 ∧ S'[b]? = some (.lst (ps.map pr2)) ∧ b ≠ n ∧ ρ = [some (.ref n), some (nt w), some (nt way), some (nt (2 ^ w)), none, some (.ref b), none, none]) (fun N hN => ?_) (fun ρ S6 hI => ?_)
  · walk_at "w"
    refine callI rfl ⟨n, 3, rfl, hD, lt_big (n := 2) (by decide) (by decide), fun r S1 g1 g2 g3 g4 => n_add (a := 1) ?_⟩
    have hr := g1 (by decide)
    refine ⟨by omega, ?_⟩
    rw [Int.toNat_natCast]
    refine lcR (fun i acc S' => DrawS S' n ∧ ∃ ps : List (Nat × Nat), ps.length = i ∧ acc = ps.map pr2) ⟨g3, [], rfl, rfl⟩ (fun i acc S' N hi hI hN => ?_) (fun acc S' hI => ?_)
    · obtain ⟨hD, ps, hl, rfl⟩ := hI
      walk_at "w"
      refine callI rfl ⟨n, w, rfl, hD, by omega, fun c v S2 k1 k2 k3 k4 => ⟨?_, hN _ _ ⟨k3, ps ++ [(c, v)], by simp [hl], by rw [List.map_append]; rfl⟩⟩⟩
      rw [List.length_map]
      exact sz_of' (by omega)
    · obtain ⟨hD, ps, hl, rfl⟩ := hI
      exact hN _ _ ⟨hD.ext (Ext.push _ _), _, ps, by omega, push_at, Nat.ne_of_gt hD.lt, rfl⟩
  obtain ⟨hD, b, ps, hps, hb, hbn, rfl⟩ := hI
  walk_at "w"
  refine ⟨by omega, ?_⟩
  rw [Int.toNat_natCast]
  refine lcR (fun i acc S' => Ext S6 S' ∧ ∃ hs : List Nat, Asc hs i ∧ acc = hs.map nt) ⟨Ext.refl _, [], Asc.nil 0, rfl⟩ (fun i acc S' N hi hI hN => ?_) (fun acc S' hI => ?_)
  · obtain ⟨hE, hs, hA, rfl⟩ := hI
    rw [Int.zero_add]
    walk_at "w"
    have hb' := hE _ _ hb
    refine ⟨_, hb', ?_⟩
    refine lcG (c := fun p : Nat × Nat => decide (i &&& p.1 = p.2)) (f := pr2) (bnd := fun p => putR [some (.ref n), some (nt w), some (nt way), some (nt (2 ^ w)), some (nt i), some (.ref b), none, none] 7 (some (pr2 p))) (fun _ _ => rfl) hb' (sz_of' (by omega)) (fun p _ Q hQ => ?_) (fun p _ _ Q hQ => hQ) ?_
    · walk_at "w"
      exact i_tup (d := nt p.1) rfl (n_and (i_tup (d := nt p.2) rfl (n_eq hQ)))
    refine ⟨by show 0 ≤ sizeLine; decide, ?_⟩
    refine l_neP (ys := []) (Ext.push _ _ _ _ push_at) push_at ?_
    have hE2 := (hE.trans (Ext.push _ (O.lst ((ps.filter fun p : Nat × Nat => decide (i &&& p.1 = p.2)).map pr2)))).trans (Ext.push _ (O.lst []))
    walk_at "w"
    cases (!decide ((ps.filter fun p : Nat × Nat => decide (i &&& p.1 = p.2)) = [])) with
    | true =>
      refine ⟨?_, hN _ _ ⟨hE2, hs ++ [i], hA.snoc, by rw [List.map_append]; rfl⟩⟩
      rw [List.length_map]
      have := hA.len
      exact sz_of' (by omega)
    | false => exact hN _ _ ⟨hE2, hs, hA.up, rfl⟩
  · obtain ⟨hE, hs, hA, rfl⟩ := hI
    exact q _ hs _ (hD.ext (hE.trans (Ext.push _ _))) push_at hA
end WW


set_option Elab.async false
set_option linter.all false
set_option maxRecDepth 100000
set_option maxHeartbeats 4000000
set_option autoImplicit false
namespace WW
open PySem PySem.Spec PyProof.Rows L2
local macro_rules | `(tactic| walk_at "w") => `(tactic| try dsimp only [st_star, st_0, st_1, st_2, st_sp, st_e, en_2, ap_var, ap_cst, ap_op, ap_neg, ap_notV, ap_andV, ap_orV, ap_chain, ap_if, ap_nil, ap_cons, ap_tup, ap_lst, ap_noP, ap_part, ap_slc, ap_call, ap_callX, ap_blt, ap_isi, ap_or, ap_lstR, ap_tupR, ap_dct, ap_fld, ap_mth, ap_mak, ap_fset, ap_forN, ap_met, ap_bits, ap_tst, ap_tsB, ap_notB, ap_andB, ap_orB, ap_yes, ap_lc, ap_sset, ap_asg, ap_asgP, ap_set, ap_drop, ap_ret, ap_retN, ap_brk, ap_cnt, ap_pas, ap_sq, ap_ifS, ap_for, ap_seqI, ap_rng, ap_enum, look, putR, kkOf, rd_int, rd_bl, rd_T, rd_F, rd_nm, rd_tp, rd_nil, rd_cons, rd_gv, rd_trB, rd_srcT, rd_rng1, rd_rng2, rd_notT, rd_notF, rd_wp0, rd_wp1, rd_rg1, rd_rg2, ty_non, ty_bl, ty_int, ty_str, ty_tup, isiB])
/- law(script): slots script=0 d=1 width=2 many=3 step=4 headers=5 cubes=6 header=7 inside=8 cube=9 one=10 other=11 both=12 met=13 text=14 place=15 odd=16 -/
def c_law_1 (p_law_begin : Spec) (p_law_draw : Spec) (p_law_headers : Spec) (p_cubes_of : Spec) (p_law_lot : Spec) (p_law_cubes : Spec) (p_law_cube : Spec) (p_meet_cubes : Spec) (p_law_pattern : Spec) (p_read_pattern : Spec) (p_write_pattern : Spec) : WS :=
  (wSq (wAsg 8 (wLc (wSeqI (wVar 6)) (.nm 9) (wTsB (wOp (cmpD .Eq) (wOp opAnd (wVar 7) (wOp idxD (wVar 9) (wCst (.int 0)))) (wOp idxD (wVar 9) (wCst (.int 1))))) (wVar 9) [9]))
  (wIfS (wTsB (wOp (cmpD .NotEq) (wBlt lenC (wCons (wVar 8) wNil)) (wIf (wTsB (wOp (cmpD .In) (wVar 7) (wVar 5))) (wCst (.int 1)) (wCst (.int 0))))) (wRet (wCst (.bl false))) wPas))
def c_law_2 (p_law_begin : Spec) (p_law_draw : Spec) (p_law_headers : Spec) (p_cubes_of : Spec) (p_law_lot : Spec) (p_law_cubes : Spec) (p_law_cube : Spec) (p_meet_cubes : Spec) (p_law_pattern : Spec) (p_read_pattern : Spec) (p_write_pattern : Spec) : WS :=
  (wIfS (wTsB (wOp (cmpD .IsNot) (wCall 2 p_read_pattern (wCons (wVar 16) (wCons (wVar 2) wNil))) (wCst .non))) (wRet (wCst (.bl false))) wPas)
def c_law_3 (p_law_begin : Spec) (p_law_draw : Spec) (p_law_headers : Spec) (p_cubes_of : Spec) (p_law_lot : Spec) (p_law_cubes : Spec) (p_law_cube : Spec) (p_meet_cubes : Spec) (p_law_pattern : Spec) (p_read_pattern : Spec) (p_write_pattern : Spec) : WS :=
  (wSq (wAsg 5 (wCall 2 p_law_headers (wCons (wVar 1) (wCons (wVar 2) wNil))))
  (wSq (wAsg 6 (wCall 2 p_cubes_of (wCons (wCall 1 p_law_lot (wCons (wVar 5) wNil)) (wCons (wVar 2) wNil))))
  (wSq (wIfS (wTsB (wOp (cmpD .NotEq) (wVar 6) (wBlt tupleC (wCons (wCall 2 p_law_cubes (wCons (wVar 5) (wCons (wVar 2) wNil))) wNil)))) (wRet (wCst (.bl false))) wPas)
  (wSq (wFor (wRng (wCons (wVar 3) wNil)) (.nm 7) (c_law_1 p_law_begin p_law_draw p_law_headers p_cubes_of p_law_lot p_law_cubes p_law_cube p_meet_cubes p_law_pattern p_read_pattern p_write_pattern))
  (wSq (wAsg 10 (wCall 2 p_law_cube (wCons (wVar 1) (wCons (wVar 2) wNil))))
  (wSq (wAsg 11 (wCall 2 p_law_cube (wCons (wVar 1) (wCons (wVar 2) wNil))))
  (wSq (wAsg 12 (wLc (wRng (wCons (wVar 3) wNil)) (.nm 7) (wAndB (wTsB (wOp (cmpD .Eq) (wOp opAnd (wVar 7) (wOp idxD (wVar 10) (wCst (.int 0)))) (wOp idxD (wVar 10) (wCst (.int 1))))) (wTsB (wOp (cmpD .Eq) (wOp opAnd (wVar 7) (wOp idxD (wVar 11) (wCst (.int 0)))) (wOp idxD (wVar 11) (wCst (.int 1)))))) (wVar 7) [7]))
  (wSq (wAsg 13 (wCall 2 p_meet_cubes (wCons (wVar 10) (wCons (wVar 11) wNil))))
  (wSq (wIfS (wTsB (wOp (cmpD .NotEq) (wOp (cmpD .Is) (wVar 13) (wCst .non)) (wOp (cmpD .Eq) (wVar 12) (wLst wNil)))) (wRet (wCst (.bl false))) wPas)
  (wSq (wIfS (wAndB (wTsB (wOp (cmpD .IsNot) (wVar 13) (wCst .non))) (wTsB (wOp (cmpD .NotEq) (wLc (wRng (wCons (wVar 3) wNil)) (.nm 7) (wTsB (wOp (cmpD .Eq) (wOp opAnd (wVar 7) (wOp idxD (wVar 13) (wCst (.int 0)))) (wOp idxD (wVar 13) (wCst (.int 1))))) (wVar 7) [7]) (wVar 12)))) (wRet (wCst (.bl false))) wPas)
  (wSq (wAsg 14 (wCall 3 p_law_pattern (wCons (wOp idxD (wVar 10) (wCst (.int 0))) (wCons (wOp idxD (wVar 10) (wCst (.int 1))) (wCons (wVar 2) wNil)))))
  (wSq (wIfS (wOrB (wTsB (wOp (cmpD .NotEq) (wCall 3 p_write_pattern (wCons (wOp idxD (wVar 10) (wCst (.int 0))) (wCons (wOp idxD (wVar 10) (wCst (.int 1))) (wCons (wVar 2) wNil)))) (wVar 14))) (wTsB (wOp (cmpD .NotEq) (wCall 2 p_read_pattern (wCons (wVar 14) (wCons (wVar 2) wNil))) (wVar 10)))) (wRet (wCst (.bl false))) wPas)
  (wSq (wAsg 15 (wCall 2 p_law_draw (wCons (wVar 1) (wCons (wVar 2) wNil))))
  (wFor (wSeqI (wLst (wCons (wOp opAdd (wVar 14) (wCst (.str (Str.ofString "*")))) (wCons (wSlc (wVar 14) (wPart (wCst (.int 1))) wNoP) (wCons (wOp opAdd (wOp opAdd (wSlc (wVar 14) wNoP (wPart (wVar 15))) (wCst (.str (Str.ofString "2")))) (wSlc (wVar 14) (wPart (wOp opAdd (wVar 15) (wCst (.int 1)))) wNoP)) (wCons (wOp opAdd (wOp opAdd (wSlc (wVar 14) wNoP (wPart (wVar 15))) (wCst (.str (Str.ofString " ")))) (wSlc (wVar 14) (wPart (wOp opAdd (wVar 15) (wCst (.int 1)))) wNoP)) (wCons (wCst .non) (wCons (wCst (.int 5)) wNil)))))))) (.nm 16) (c_law_2 p_law_begin p_law_draw p_law_headers p_cubes_of p_law_lot p_law_cubes p_law_cube p_meet_cubes p_law_pattern p_read_pattern p_write_pattern)))))))))))))))
def c_law (p_law_begin : Spec) (p_law_draw : Spec) (p_law_headers : Spec) (p_cubes_of : Spec) (p_law_lot : Spec) (p_law_cubes : Spec) (p_law_cube : Spec) (p_meet_cubes : Spec) (p_law_pattern : Spec) (p_read_pattern : Spec) (p_write_pattern : Spec) : WS :=
  (wSq (wAsg 1 (wCall 1 p_law_begin (wCons (wVar 0) wNil)))
  (wSq (wAsg 2 (wOp opAdd (wCst (.int 1)) (wCall 2 p_law_draw (wCons (wVar 1) (wCons (wCst (.int 6)) wNil)))))
  (wSq (wAsg 3 (wOp opShl (wCst (.int 1)) (wVar 2)))
  (wSq (wFor (wRng (wCons (wCst (.int 4)) wNil)) (.nm 4) (c_law_3 p_law_begin p_law_draw p_law_headers p_cubes_of p_law_lot p_law_cubes p_law_cube p_meet_cubes p_law_pattern p_read_pattern p_write_pattern))
  (wRet (wCst (.bl true)))))))


def sp_law_cubes : Spec := sp_law_cubesN 6
theorem inF_nts (h : Nat) : ∀ hs : List Nat, inF (nt h) (hs.map nt) = decide (h ∈ hs)
  | [] => rfl
  | x :: r => by
    show (eqF (nt x) (nt h) || inF (nt h) (r.map nt)) = _
    rw [inF_nts h r]
    show ((x : Int) == (h : Int) || _) = _
    rw [Bool.eq_iff_iff]
    simp only [Bool.or_eq_true, beq_iff_eq, decide_eq_true_eq, List.mem_cons]
    constructor
    · rintro (q | q)
      · exact .inl (by omega)
      · exact .inr q
    · rintro (q | q)
      · exact .inl (by omega)
      · exact .inr q
theorem flat_nts : ∀ hs : List Nat, (hs.map nt).all flatD = true
  | [] => rfl
  | x :: r => flat_nts r
theorem n_inL {h q : Nat} {hs : List Nat} {S : Sto} {Q : Q1} (hq : S[q]? = some (.lst (hs.map nt))) (k : Q (.bl (decide (h ∈ hs))) S) : cmpD .In (nt h) (.ref q) S Q := by
  refine .inl ⟨_, hq, rfl, flat_nts hs, ?_⟩
  rw [inF_nts]
  exact k
theorem t_neP {xs ys : List (Nat × Nat)} {S : Sto} {Q : Q1} (k : Q (.bl (!decide (xs = ys))) S) : cmpD .NotEq (.tup (xs.map pr2)) (.tup (ys.map pr2)) S Q := by
  rw [pr2_T, pr2_T]
  refine T.cmp (t := .tup (xs.map T.pr)) (u := .tup (ys.map T.pr)) (neg := true) (by show T.fits 63 _ = true; exact T.fits_map (fun _ => rfl) _) (by show T.fits 63 _ = true; exact T.fits_map (fun _ => rfl) _) fun b hb => ?_
  have : b = decide (xs = ys) := by
    rw [Bool.eq_iff_iff, hb, decide_eq_true_eq, T.tup.injEq, map_inj fun x y => T.pr_inj.mp]
  rw [this]
  exact k
theorem pr_ne {a b c d : Nat} {S : Sto} {Q : Q1} (q : Q (.bl (!decide ((a, b) = (c, d)))) S) : cmpD .NotEq (.tup [nt a, nt b]) (.tup [nt c, nt d]) S Q :=
  T.cmp (t := T.pr (a, b)) (u := T.pr (c, d)) (neg := true) rfl rfl fun e he => by
    have : e = decide ((a, b) = (c, d)) := by
      rw [Bool.eq_iff_iff, he, T.pr_inj, decide_eq_true_eq]
    rw [this]
    exact q
theorem nil_filter {w : Nat} {p : Nat → Bool} : ((List.range (2 ^ w)).filter p = []) ↔ ∀ h, h < 2 ^ w → p h = false := by
  rw [List.filter_eq_nil_iff]
  exact ⟨fun q h hh => by simpa using q h (List.mem_range.mpr hh), fun q h hh => by simpa using q h (List.mem_range.mp hh)⟩
theorem filter_cong {w : Nat} {p q : Nat → Bool} (h : ∀ i, p i = q i) : (List.range (2 ^ w)).filter p = (List.range (2 ^ w)).filter q := by
  congr 1
  funext i
  exact h i
theorem c_is {x : D} {S : Sto} {Q : Q1} (q : Q (.bl (isNon x)) S) : cmpD .Is x .non S Q := q
theorem c_isnot {x : D} {S : Sto} {Q : Q1} (q : Q (.bl (!isNon x)) S) : cmpD .IsNot x .non S Q := q
theorem b_ne {a b : Bool} {S : Sto} {Q : Q1} (q : Q (.bl (!decide (a = b))) S) : cmpD .NotEq (.bl a) (.bl b) S Q := q
def LI4 (ns : List Int) (n w : Nat) (ρ : Rho) (S : Sto) : Prop := DrawS S n ∧ ∃ x_step x_headers x_cubes x_header x_inside x_cube x_one x_other x_both x_met x_text x_place x_odd, ρ = [some (.fro (ns.map D.int)), some (.ref n), some (nt w), some (nt (2 ^ w)), x_step, x_headers, x_cubes, x_header, x_inside, x_cube, x_one, x_other, x_both, x_met, x_text, x_place, x_odd]
/-- a list over a range, by a test that leaves the store -/
theorem lcRF {t : WT} {e : W} {ρ0 : Rho} {Q : Q1} {S : Sto} {i m : Nat} {c : Nat → Bool} (hm : m ≤ 8192) (ht : ∀ h, h < m → ∀ (Q : Bool → Sto → Prop), Q (c h) S → t (noX, putR ρ0 i (some (nt h))) S Q)
    (he : ∀ h, h < m → ∀ (Q : Q1), Q (nt h) S → e (noX, putR ρ0 i (some (nt h))) S Q) (q : Q (.ref S.length) (S ++ [.lst (((List.range m).filter c).map nt)])) :
    lcGo (fun _ => True) (.nm i) t e ρ0 Q ((List.range m).map fun k => .int ((0 : Int) + (k : Nat))) [] S := by
  have e1 : ((List.range m).map fun k : Nat => D.int ((0 : Int) + (k : Nat))) = (List.range m).map nt := List.map_congr_left fun k _ => by rw [Int.zero_add]
  rw [e1]
  refine lcG (c := c) (f := nt) (bnd := fun h => putR ρ0 i (some (nt h))) (fun _ _ => rfl) trivial (by rw [List.length_range]; exact sz_of' (by omega)) (fun h hh Q hQ => ht h (List.mem_range.mp hh) Q hQ) (fun h hh _ Q hQ => he h (List.mem_range.mp hh) Q hQ) q
theorem body4 {ns : List Int} {n w : Nat} {k : KK} {S : Sto} {x_step x_headers x_cubes x_header x_inside x_cube x_one x_other x_both x_met x_text x_place x_odd : Option D} (h1 : 1 ≤ w) (hw : w ≤ 6) (hD : DrawS S n) (hN : ∀ ρ S, LI4 ns n w ρ S → k.nx ρ S) :
    c_law_3 sp_law_begin sp_law_draw sp_law_headers sp_cubes_of sp_law_lot sp_law_cubes sp_law_cube sp_meet_cubes sp_law_pattern sp_read_pattern sp_write_pattern k [some (.fro (ns.map D.int)), some (.ref n), some (nt w), some (nt (2 ^ w)), x_step, x_headers, x_cubes, x_header, x_inside, x_cube, x_one, x_other, x_both, x_met, x_text, x_place, x_odd] S := by
  have hp := pow13 (show w ≤ 13 by omega)
  have hp0 := Nat.two_pow_pos w
  have hbig : 2 ^ w < 2 ^ 8999 := Nat.pow_lt_pow_right (by decide) (by omega)
  unfold c_law_3
  refine sq_cut (fun ρ S' => DrawS S' n ∧ ∃ (r : Nat) (hs : List Nat), S'[r]? = some (.lst (hs.map nt)) ∧ Asc hs (2 ^ w) ∧ ρ = [some (.fro (ns.map D.int)), some (.ref n), some (nt w), some (nt (2 ^ w)), x_step, some (.ref r), x_cubes, x_header, x_inside, x_cube, x_one, x_other, x_both, x_met, x_text, x_place, x_odd]) (fun N hN' => ?_) (fun ρ S1 hI => ?_)
  · walk_at "w"
    exact callI rfl ⟨n, w, rfl, hD, hw, fun r hs S' g1 g2 g3 => hN' _ _ ⟨g1, r, hs, g2, g3, rfl⟩⟩
  obtain ⟨hD, r, hs, hr, hA, rfl⟩ := hI
  have hL : ofL hs < 2 ^ 2 ^ w := ofL_lt hA.2
  refine sq_cut (fun ρ S' => Ext S1 S' ∧ ρ = [some (.fro (ns.map D.int)), some (.ref n), some (nt w), some (nt (2 ^ w)), x_step, some (.ref r), some (.tup ((cubesL w (ofL hs)).map pr2)), x_header, x_inside, x_cube, x_one, x_other, x_both, x_met, x_text, x_place, x_odd]) (fun N hN' => ?_) (fun ρ S2 hI => ?_)
  · walk_at "w"
    refine callI rfl ⟨r, hs, rfl, hr, fun h hm => by have := hA.2 h hm; omega, callI rfl ⟨_, w, rfl, by omega, hL, fun S' hE => ?_⟩⟩
    exact hN' _ _ ⟨hE, rfl⟩
  obtain ⟨hE, rfl⟩ := hI
  have hr2 := hE _ _ hr
  have hD2 := hD.ext hE
  refine sq_cut (fun ρ S' => Ext S2 S' ∧ ρ = [some (.fro (ns.map D.int)), some (.ref n), some (nt w), some (nt (2 ^ w)), x_step, some (.ref r), some (.tup ((cubesL w (ofL hs)).map pr2)), x_header, x_inside, x_cube, x_one, x_other, x_both, x_met, x_text, x_place, x_odd]) (fun N hN' => ?_) (fun ρ S3 hI => ?_)
  · walk_at "w"
    refine callI rfl ⟨r, w, hs, rfl, hw, by omega, hr2, hA, fun p S' hE' _ hp => c_tupL hp (t_neP ?_)⟩
    rw [decide_eq_true rfl]
    exact hN' _ _ ⟨hE', rfl⟩
  obtain ⟨hE3, rfl⟩ := hI
  have hr3 := hE3 _ _ hr2
  have hD3 := hD2.ext hE3
  refine sq_cut (fun ρ S' => Ext S3 S' ∧ ∃ x_header x_inside, ρ = [some (.fro (ns.map D.int)), some (.ref n), some (nt w), some (nt (2 ^ w)), x_step, some (.ref r), some (.tup ((cubesL w (ofL hs)).map pr2)), x_header, x_inside, x_cube, x_one, x_other, x_both, x_met, x_text, x_place, x_odd]) (fun N hN' => ?_) (fun ρ S4 hI => ?_)
  · walk_at "w"
    refine ⟨by omega, ?_⟩
    rw [Int.toNat_natCast]
    refine forR (fun i ρ S' => Ext S3 S' ∧ ∃ x_header x_inside, ρ = [some (.fro (ns.map D.int)), some (.ref n), some (nt w), some (nt (2 ^ w)), x_step, some (.ref r), some (.tup ((cubesL w (ofL hs)).map pr2)), x_header, x_inside, x_cube, x_one, x_other, x_both, x_met, x_text, x_place, x_odd]) ⟨Ext.refl _, _, _, rfl⟩ (fun i ρ S' N hi hI hN => ?_) (fun ρ S' hI => hN' _ _ hI)
    obtain ⟨hE, x_header, x_inside, rfl⟩ := hI
    rw [Int.zero_add]
    walk_at "w"
    unfold c_law_1
    walk_at "w"
    have hlen := cubes_len w (ofL hs)
    refine lcG (c := inC i) (f := pr2) (bnd := fun p => putR (putR [some (.fro (ns.map D.int)), some (.ref n), some (nt w), some (nt (2 ^ w)), x_step, some (.ref r), some (.tup ((cubesL w (ofL hs)).map pr2)), some (nt i), x_inside, x_cube, x_one, x_other, x_both, x_met, x_text, x_place, x_odd] 9 none) 9 (some (pr2 p))) (fun _ _ => rfl) trivial (sz_of' (by omega)) (fun p _ Q hQ => ?_) (fun p _ _ Q hQ => hQ) ?_
    · walk_at "w"
      exact i_tup (d := nt p.1) rfl (n_and (i_tup (d := nt p.2) rfl (n_eq hQ)))
    refine c_lenL push_at ?_
    rw [List.length_map, cubes_count w _ i hL hi, ofL_bit]
    refine n_inL (Ext.push _ _ _ _ (hE _ _ hr3)) ?_
    walk_at "w"
    cases hb : decide (i ∈ hs) with
    | true =>
      walk_at "w"
      refine n_ne (a := 1) (b := 1) ?_
      exact hN _ _ ⟨hE.trans (Ext.push _ _), _, _, rfl⟩
    | false =>
      walk_at "w"
      refine n_ne (a := 0) (b := 0) ?_
      exact hN _ _ ⟨hE.trans (Ext.push _ _), _, _, rfl⟩
  obtain ⟨hE4, x_header, x_inside, rfl⟩ := hI
  have hD4 := hD3.ext hE4
  refine sq_cut (fun ρ S' => DrawS S' n ∧ ∃ c v, c < 2 ^ w ∧ v &&& c = v ∧ ρ = [some (.fro (ns.map D.int)), some (.ref n), some (nt w), some (nt (2 ^ w)), x_step, some (.ref r), some (.tup ((cubesL w (ofL hs)).map pr2)), x_header, x_inside, x_cube, some (.tup [nt c, nt v]), x_other, x_both, x_met, x_text, x_place, x_odd]) (fun N hN' => ?_) (fun ρ S5 hI => ?_)
  · walk_at "w"
    exact callI rfl ⟨n, w, rfl, hD4, by omega, fun c v S' h1 h2 h3 h4 => hN' _ _ ⟨h3, c, v, h1, h2, rfl⟩⟩
  obtain ⟨hD, c, v, hc, hv, rfl⟩ := hI
  refine sq_cut (fun ρ S' => DrawS S' n ∧ ∃ d u, d < 2 ^ w ∧ u &&& d = u ∧ ρ = [some (.fro (ns.map D.int)), some (.ref n), some (nt w), some (nt (2 ^ w)), x_step, some (.ref r), some (.tup ((cubesL w (ofL hs)).map pr2)), x_header, x_inside, x_cube, some (.tup [nt c, nt v]), some (.tup [nt d, nt u]), x_both, x_met, x_text, x_place, x_odd]) (fun N hN' => ?_) (fun ρ S6 hI => ?_)
  · walk_at "w"
    exact callI rfl ⟨n, w, rfl, hD, by omega, fun c v S' h1 h2 h3 h4 => hN' _ _ ⟨h3, c, v, h1, h2, rfl⟩⟩
  obtain ⟨hD, d, u, hd, hu, rfl⟩ := hI
  have hv2 : v < 2 ^ w := by
    rw [← hv]
    exact Nat.lt_of_le_of_lt Nat.and_le_right hc
  have hu2 : u < 2 ^ w := by
    rw [← hu]
    exact Nat.lt_of_le_of_lt Nat.and_le_right hd
  refine sq_cut (fun ρ S' => DrawS S' n ∧ ∃ bo, S'[bo]? = some (.lst (((List.range (2 ^ w)).filter fun h => decide (h &&& c = v) && decide (h &&& d = u)).map nt)) ∧ ρ = [some (.fro (ns.map D.int)), some (.ref n), some (nt w), some (nt (2 ^ w)), x_step, some (.ref r), some (.tup ((cubesL w (ofL hs)).map pr2)), x_header, x_inside, x_cube, some (.tup [nt c, nt v]), some (.tup [nt d, nt u]), some (.ref bo), x_met, x_text, x_place, x_odd]) (fun N hN' => ?_) (fun ρ S7 hI => ?_)
  · walk_at "w"
    refine ⟨by omega, ?_⟩
    rw [Int.toNat_natCast]
    refine lcRF (c := fun h => decide (h &&& c = v) && decide (h &&& d = u)) hp (fun h hh Q hQ => ?_) (fun h hh Q hQ => hQ) (hN' _ _ ⟨hD.ext (Ext.push _ _), _, push_at, rfl⟩)
    walk_at "w"
    refine i_tup (d := nt c) rfl (n_and (i_tup (d := nt v) rfl (n_eq ?_)))
    cases hb : decide (h &&& c = v) with
    | false =>
      rw [hb] at hQ
      exact hQ
    | true =>
      rw [hb] at hQ
      walk_at "w"
      refine i_tup (d := nt d) rfl (n_and (i_tup (d := nt u) rfl (n_eq ?_)))
      exact hQ
  obtain ⟨hD, bo, hbo, rfl⟩ := hI
  refine sq_cut (fun ρ S' => S' = S7 ∧ ρ = [some (.fro (ns.map D.int)), some (.ref n), some (nt w), some (nt (2 ^ w)), x_step, some (.ref r), some (.tup ((cubesL w (ofL hs)).map pr2)), x_header, x_inside, x_cube, some (.tup [nt c, nt v]), some (.tup [nt d, nt u]), some (.ref bo), some (meetD c v d u), x_text, x_place, x_odd]) (fun N hN' => ?_) (fun ρ S8 hI => ?_)
  · walk_at "w"
    exact callI rfl ⟨c, v, d, u, rfl, hN' _ _ ⟨rfl, rfl⟩⟩
  obtain ⟨rfl, rfl⟩ := hI
  refine sq_cut (fun ρ S' => Ext S8 S' ∧ ρ = [some (.fro (ns.map D.int)), some (.ref n), some (nt w), some (nt (2 ^ w)), x_step, some (.ref r), some (.tup ((cubesL w (ofL hs)).map pr2)), x_header, x_inside, x_cube, some (.tup [nt c, nt v]), some (.tup [nt d, nt u]), some (.ref bo), some (meetD c v d u), x_text, x_place, x_odd]) (fun N hN' => ?_) (fun ρ S9 hI => ?_)
  · walk_at "w"
    refine c_is ?_
    refine ⟨by show 0 ≤ sizeLine; decide, l_eq (ys := []) (Ext.push _ _ _ _ hbo) push_at (b_ne ?_)⟩
    have e : isNon (meetD c v d u) = decide (((List.range (2 ^ w)).filter fun h => decide (h &&& c = v) && decide (h &&& d = u)) = []) := by
      rw [Bool.eq_iff_iff, decide_eq_true_eq, nil_filter]
      unfold meetD
      by_cases hz : (v ^^^ u) &&& c &&& d = 0
      · rw [if_pos hz]
        constructor
        · intro h; cases h
        · intro h
          have hlt : v ||| u < 2 ^ w := Nat.or_lt_two_pow hv2 hu2
          have := h (v ||| u) hlt
          obtain ⟨a, b⟩ := (meet_yes hv hu hz (v ||| u)).mpr (or_sub hv hu)
          rw [decide_eq_true a, decide_eq_true b] at this
          cases this
      · rw [if_neg hz]
        refine ⟨fun _ h hh => ?_, fun _ => rfl⟩
        have := meet_no hv hu hz h
        cases h1 : decide (h &&& c = v) with
        | false => rfl
        | true => cases h2 : decide (h &&& d = u) with
          | false => rfl
          | true => exact absurd ⟨of_decide_eq_true h1, of_decide_eq_true h2⟩ this
    rw [e, decide_eq_true rfl]
    exact hN' _ _ ⟨Ext.push _ _, rfl⟩
  obtain ⟨hE9, rfl⟩ := hI
  have hbo9 := hE9 _ _ hbo
  have hD9 := hD.ext hE9
  refine sq_cut (fun ρ S' => Ext S9 S' ∧ ∃ x_met, ρ = [some (.fro (ns.map D.int)), some (.ref n), some (nt w), some (nt (2 ^ w)), x_step, some (.ref r), some (.tup ((cubesL w (ofL hs)).map pr2)), x_header, x_inside, x_cube, some (.tup [nt c, nt v]), some (.tup [nt d, nt u]), some (.ref bo), x_met, x_text, x_place, x_odd]) (fun N hN' => ?_) (fun ρ S10 hI => ?_)
  · walk_at "w"
    refine c_isnot ?_
    unfold meetD
    by_cases hz : (v ^^^ u) &&& c &&& d = 0
    · rw [if_pos hz]
      rw [show isNon (D.tup [nt (c ||| d), nt (v ||| u)]) = false from rfl]
      walk_at "w"
      refine ⟨by omega, ?_⟩
      rw [Int.toNat_natCast]
      refine lcRF (c := fun h => decide (h &&& (c ||| d) = v ||| u)) hp (fun h hh Q hQ => ?_) (fun h hh Q hQ => hQ) ?_
      · walk_at "w"
        exact i_tup (d := nt (c ||| d)) rfl (n_and (i_tup (d := nt (v ||| u)) rfl (n_eq hQ)))
      refine l_ne push_at (Ext.push _ _ _ _ hbo9) ?_
      have e : ((List.range (2 ^ w)).filter fun h => decide (h &&& (c ||| d) = v ||| u)) = (List.range (2 ^ w)).filter fun h => decide (h &&& c = v) && decide (h &&& d = u) := filter_cong fun h => by
        rw [Bool.eq_iff_iff, Bool.and_eq_true, decide_eq_true_eq, decide_eq_true_eq, decide_eq_true_eq]
        exact (meet_yes hv hu hz h).symm
      rw [decide_eq_true e]
      exact hN' _ _ ⟨Ext.push _ _, _, rfl⟩
    · rw [if_neg hz]
      rw [show isNon D.non = true from rfl]
      exact hN' _ _ ⟨Ext.refl _, _, rfl⟩
  obtain ⟨hE10, x_met, rfl⟩ := hI
  have hD10 := hD9.ext hE10
  refine sq_cut (fun ρ S' => S' = S10 ∧ ρ = [some (.fro (ns.map D.int)), some (.ref n), some (nt w), some (nt (2 ^ w)), x_step, some (.ref r), some (.tup ((cubesL w (ofL hs)).map pr2)), x_header, x_inside, x_cube, some (.tup [nt c, nt v]), some (.tup [nt d, nt u]), some (.ref bo), x_met, some (.str (SX.S (patL c v w w))), x_place, x_odd]) (fun N hN' => ?_) (fun ρ S11 hI => ?_)
  · walk_at "w"
    exact i_tup (d := nt c) rfl (i_tup (d := nt v) rfl (callI rfl ⟨c, v, w, rfl, by omega, hN' _ _ ⟨rfl, rfl⟩⟩))
  obtain ⟨rfl, rfl⟩ := hI
  refine sq_cut (fun ρ S' => Ext S11 S' ∧ ρ = [some (.fro (ns.map D.int)), some (.ref n), some (nt w), some (nt (2 ^ w)), x_step, some (.ref r), some (.tup ((cubesL w (ofL hs)).map pr2)), x_header, x_inside, x_cube, some (.tup [nt c, nt v]), some (.tup [nt d, nt u]), some (.ref bo), x_met, some (.str (SX.S (patL c v w w))), x_place, x_odd]) (fun N hN' => ?_) (fun ρ S12 hI => ?_)
  · walk_at "w"
    refine i_tup (d := nt c) rfl (i_tup (d := nt v) rfl (callI rfl ⟨c, v, w, rfl, h1, by omega, fun S' hE => s_ne ?_⟩))
    rw [decide_eq_true rfl]
    walk_at "w"
    refine callI rfl (.inr (.inr ⟨c, v, w, rfl, by omega, hc, hv, pr_ne ?_⟩))
    rw [decide_eq_true rfl]
    exact hN' _ _ ⟨hE, rfl⟩
  obtain ⟨hE12, rfl⟩ := hI
  have hD12 := hD10.ext hE12
  have hlen := patL_len c v w w
  refine sq_cut (fun ρ S' => DrawS S' n ∧ ∃ pl : Nat, pl < w ∧ ρ = [some (.fro (ns.map D.int)), some (.ref n), some (nt w), some (nt (2 ^ w)), x_step, some (.ref r), some (.tup ((cubesL w (ofL hs)).map pr2)), x_header, x_inside, x_cube, some (.tup [nt c, nt v]), some (.tup [nt d, nt u]), some (.ref bo), x_met, some (.str (SX.S (patL c v w w))), some (nt pl), x_odd]) (fun N hN' => ?_) (fun ρ S13 hI => ?_)
  · walk_at "w"
    exact callI rfl ⟨n, w, rfl, hD12, lt_big (n := 3) (by show w < 8; omega) (by decide), fun pl S' g1 g2 g3 g4 => hN' _ _ ⟨g3, pl, draw_lt g1 g2 h1, rfl⟩⟩
  obtain ⟨hD, pl, hpl, rfl⟩ := hI
  walk_at "w"
  have odd2 : ∀ s : Nat, badSign s = true → ∃ s' ∈ (patL c v w w).take pl ++ [s] ++ (patL c v w w).drop (pl + 1), badSign s' = true := fun s hs => ⟨s, by simp, hs⟩
  have l3 : ∀ s : Nat, ((patL c v w w).take pl ++ [s] ++ (patL c v w w).drop (pl + 1)).length ≤ 100 := fun s => by
    simp only [List.length_append, List.length_take, List.length_drop, hlen, List.length_singleton]
    omega
  have lt : ((patL c v w w).take pl).length ≤ 6 := by rw [List.length_take, hlen]; omega
  have ld : ((patL c v w w).drop (pl + 1)).length ≤ 6 := by rw [List.length_drop, hlen]; omega
  have cutA : ∀ (S : Sto) (Q : Q1), Q (.str (SX.S ((patL c v w w).take pl))) S → slcD (.str (SX.S (patL c v w w))) none (some (nt pl |> fun _ => (pl : Int))) S Q := fun S Q q => by
    refine ⟨by rw [SX.S_len]; exact Nat.le_of_lt (sz_of' (by omega)), ?_⟩
    rw [cut_to (by omega)]
    exact q
  have cutB : ∀ (S : Sto) (Q : Q1), Q (.str (SX.S ((patL c v w w).drop (pl + 1)))) S → slcD (.str (SX.S (patL c v w w))) (some ((pl + 1 : Nat) : Int)) none S Q := fun S Q q => by
    refine ⟨by rw [SX.S_len]; exact Nat.le_of_lt (sz_of' (by omega)), ?_⟩
    rw [cut_from (by omega)]
    exact q
  have cutC : ∀ (S : Sto) (Q : Q1), Q (.str (SX.S ((patL c v w w).drop 1))) S → slcD (.str (SX.S (patL c v w w))) (some 1) none S Q := fun S Q q => by
    refine ⟨by rw [SX.S_len]; exact Nat.le_of_lt (sz_of' (by omega)), ?_⟩
    have := cut_from (l := patL c v w w) (k := 1) (by omega)
    rw [show ((1 : Nat) : Int) = 1 from rfl] at this
    rw [this]
    exact q
  refine s_add (by show _ + 1 ≤ 100000; omega) (cutC _ _ ?_)
  refine cutA _ _ (s_add (by show _ + 1 ≤ 100000; omega) (n_add (b := 1) ?_))
  walk_at "w"
  refine cutB _ _ (s_add (by rw [List.length_append]; show _ + 1 + _ ≤ 100000; omega) ?_)
  refine cutA _ _ (s_add (by show _ + 1 ≤ 100000; omega) (n_add (b := 1) ?_))
  walk_at "w"
  refine cutB _ _ (s_add (by rw [List.length_append]; show _ + 1 + _ ≤ 100000; omega) ?_)
  refine ⟨by show 6 ≤ sizeLine; decide, _, push_at, ?_⟩
  refine forI (fun i ρ S' => S' = S13 ++ [.lst [.str (SX.S (patL c v w w ++ [42])), .str (SX.S ((patL c v w w).drop 1)), .str (SX.S ((patL c v w w).take pl ++ [50] ++ (patL c v w w).drop (pl + 1))), .str (SX.S ((patL c v w w).take pl ++ [32] ++ (patL c v w w).drop (pl + 1))), .non, .int 5]] ∧ ∃ x_odd, ρ = [some (.fro (ns.map D.int)), some (.ref n), some (nt w), some (nt (2 ^ w)), x_step, some (.ref r), some (.tup ((cubesL w (ofL hs)).map pr2)), x_header, x_inside, x_cube, some (.tup [nt c, nt v]), some (.tup [nt d, nt u]), some (.ref bo), x_met, some (.str (SX.S (patL c v w w))), some (nt pl), x_odd]) ⟨rfl, _, rfl⟩ (fun i od ρ S' N hd hI hN' => ?_) (fun ρ S' hI => ?_)
  · obtain ⟨rfl, x_odd, rfl⟩ := hI
    refine ⟨push_at, ?_⟩
    walk_at "w"
    unfold c_law_2
    walk_at "w"
    refine callI rfl ?_
    have fin : ∀ S', S' = S13 ++ [.lst [.str (SX.S (patL c v w w ++ [42])), .str (SX.S ((patL c v w w).drop 1)), .str (SX.S ((patL c v w w).take pl ++ [50] ++ (patL c v w w).drop (pl + 1))), .str (SX.S ((patL c v w w).take pl ++ [32] ++ (patL c v w w).drop (pl + 1))), .non, .int 5]] → ∀ (Q : Q1), Q .non S' → sp_read_pattern [od, nt w] S' Q := fun S' _ Q q => by
      match i, hd with
      | 0, hd =>
        cases hd
        refine .inr (.inl ⟨_, w, rfl, by omega, ?_, .inl ?_, q⟩)
        · rw [List.length_append, hlen]; show w + 1 ≤ 100; omega
        · rw [List.length_append, hlen]; show w + 1 ≠ w; omega
      | 1, hd =>
        cases hd
        refine .inr (.inl ⟨_, w, rfl, by omega, ?_, .inl ?_, q⟩)
        · rw [List.length_drop, hlen]; omega
        · rw [List.length_drop, hlen]; omega
      | 2, hd =>
        cases hd
        exact .inr (.inl ⟨_, w, rfl, by omega, l3 50, .inr (odd2 50 rfl), q⟩)
      | 3, hd =>
        cases hd
        exact .inr (.inl ⟨_, w, rfl, by omega, l3 32, .inr (odd2 32 rfl), q⟩)
      | 4, hd =>
        cases hd
        exact .inl ⟨_, w, rfl, .inl rfl, q⟩
      | 5, hd =>
        cases hd
        exact .inl ⟨_, w, rfl, .inr ⟨5, rfl⟩, q⟩
      | i + 6, hd => cases hd
    exact fin _ rfl _ (hN' _ _ ⟨rfl, _, rfl⟩)
  · obtain ⟨rfl, x_odd, rfl⟩ := hI
    exact ⟨push_at, hN _ _ ⟨hD.ext (Ext.push _ _), _, _, _, _, _, _, _, _, _, _, _, _, _, rfl⟩⟩
def sp_law : Spec := fun ds S Q => ∃ ns : List Int, ds = [.fro (ns.map D.int)] ∧ ∀ S', Q (.bl true) S'
theorem good_law : Good 17 1 (c_law sp_law_begin sp_law_draw sp_law_headers sp_cubes_of sp_law_lot sp_law_cubes sp_law_cube sp_meet_cubes sp_law_pattern sp_read_pattern sp_write_pattern) sp_law := by
  intro ds S Q _ h
  obtain ⟨ns, rfl, q⟩ := h
  show c_law sp_law_begin sp_law_draw sp_law_headers sp_cubes_of sp_law_lot sp_law_cubes sp_law_cube sp_meet_cubes sp_law_pattern sp_read_pattern sp_write_pattern (kkOf Q) [some (.fro (ns.map D.int)), none, none, none, none, none, none, none, none, none, none, none, none, none, none, none, none] S
  unfold c_law
  refine sq_cut (fun ρ S' => ∃ n, DrawS S' n ∧ ρ = [some (.fro (ns.map D.int)), some (.ref n), none, none, none, none, none, none, none, none, none, none, none, none, none, none, none]) (fun N hN => ?_) (fun ρ S1 hI => ?_)
  · walk_at "w"
    exact callI rfl ⟨ns, rfl, fun n S' _ _ hD => hN _ _ ⟨n, hD, rfl⟩⟩
  obtain ⟨n, hD, rfl⟩ := hI
  refine sq_cut (fun ρ S' => ∃ w, 1 ≤ w ∧ w ≤ 6 ∧ DrawS S' n ∧ ρ = [some (.fro (ns.map D.int)), some (.ref n), some (nt w), none, none, none, none, none, none, none, none, none, none, none, none, none, none]) (fun N hN => ?_) (fun ρ S2 hI => ?_)
  · walk_at "w"
    refine callI rfl ⟨n, 6, rfl, hD, lt_big (n := 3) (by decide) (by decide), fun r S3 g1 g2 g3 g4 => n_add (a := 1) ?_⟩
    have := g1 (by decide)
    exact hN _ _ ⟨1 + r, by omega, by omega, g3, rfl⟩
  obtain ⟨w, h1, hw, hD, rfl⟩ := hI
  have hp := pow13 (show w ≤ 13 by omega)
  walk_at "w"
  refine n_shl1 (by omega) ⟨by decide, ?_⟩
  refine forR (fun _ ρ S' => LI4 ns n w ρ S') ⟨hD, _, _, _, _, _, _, _, _, _, _, _, _, _, rfl⟩ (fun i ρ S' N' hi hI hN' => ?_) (fun ρ S' hI => ?_)
  · obtain ⟨hD, x_step, x_headers, x_cubes, x_header, x_inside, x_cube, x_one, x_other, x_both, x_met, x_text, x_place, x_odd, rfl⟩ := hI
    walk_at "w"
    exact body4 h1 hw hD hN'
  · obtain ⟨hD, x_step, x_headers, x_cubes, x_header, x_inside, x_cube, x_one, x_other, x_both, x_met, x_text, x_place, x_odd, rfl⟩ := hI
    exact q _
end WW


set_option Elab.async false
set_option linter.all false
set_option maxRecDepth 100000
set_option maxHeartbeats 4000000
set_option autoImplicit false
namespace WW
open PySem PySem.Spec PyProof.Rows L2
theorem rep_ints {K : KF} {H : Hp} {ι : List Addr} : ∀ ns : List Int, RepVs K H ι (ns.map D.int) (ns.map V.int)
  | [] => rfl
  | n :: r => ⟨_, _, rfl, rfl, rep_ints r⟩
/-- what a law's def promises, over the machine's heap -/
def spLaw (K : PySem.W.Frag) : Sp := fun vs H Q E => ∃ (a : Addr) (ns : List Int), vs = [.ref a] ∧ L2.Only H ∧ SqL K H a (ns.map V.int) ∧ ∀ H', Q (.bl true) H'
theorem law_imp {P : Program} {w : World} {K : PySem.W.Frag} {mg : Str → Option Value} {base : Heap} {CX : CXT} {k : Nat} {f : Addr} {fd : FuncData} {ps : List Str} {κ : KF} {sp : Spec} (F : FnOk P w K mg base CX k f fd ps (spOf κ 1 sp))
    (h : ∀ (ns : List Int) (S : Sto) (Q : Q1), (∀ S', Q (.bl true) S') → sp [.fro (ns.map D.int)] S Q) (e : κ.K = K := by rfl) : FnOk P w K mg base CX k f fd ps (spLaw K) := by
  subst e
  refine F.imp fun vs H Q E ⟨a, ns, ev, hO, hS, q⟩ => ?_
  subst ev
  refine ⟨[], [], [.fro (ns.map D.int)], ⟨rfl, List.Pairwise.nil, fun n a o h => by simp at h⟩, ⟨.ref a, [], rfl, ⟨a, ns.map V.int, rfl, ?_, rep_ints ns⟩, rfl⟩, rfl, fun d _ => d = .bl true, h ns _ _ fun _ => rfl, fun d S' e v H' ι' T R r => ?_⟩
  · rcases hS with (hS | ⟨o, hS⟩) | hS
    · rcases hO a with z | ⟨o, xs, z⟩
      · rw [z] at hS; cases hS
      · rw [z] at hS; cases hS
    · exact .inl ⟨o, hS⟩
    · exact .inr fun H' => .inr hS
  · subst e
    cases r
    exact q H'
end WW


set_option Elab.async false
set_option linter.all false
set_option maxRecDepth 100000
set_option maxHeartbeats 4000000
set_option autoImplicit false
namespace WW
open PySem PySem.Spec PyProof.Rows L2
def topS (i : Nat) : Stmt := PySem.Challenge.pw_wishweather_k04_cubes_part_a_lot.main.body.getD i (.Pass ⟨0, 0, 0, 0⟩)
def B0 : List Str := [Str.ofString "int", Str.ofString "isinstance", Str.ofString "len", Str.ofString "list", Str.ofString "range", Str.ofString "str", Str.ofString "tuple"]
abbrev s_all_lot : Stmt := topS 1
theorem sc_all_lot : FnScope ["width"] ["width"] (defScope s_all_lot) := ⟨rfl, rfl, rfl, by decide +kernel, rfl, by decide +kernel, by decide +kernel⟩
theorem tr_all_lot : trL (ctOf ["width"] s_all_lot [] B0 kl0) 60 (defBody s_all_lot) = some (c_all_lot) := by kernel_rfl
abbrev s_read_pattern : Stmt := topS 3
theorem sc_read_pattern : FnScope ["text", "width", "care", "value", "sign"] ["text", "width"] (defScope s_read_pattern) := ⟨rfl, rfl, rfl, by decide +kernel, rfl, by decide +kernel, by decide +kernel⟩
theorem tr_read_pattern : trL (ctOf ["text", "width", "care", "value", "sign"] s_read_pattern [] B0 kl0) 60 (defBody s_read_pattern) = some (c_read_pattern) := by kernel_rfl
abbrev s_write_pattern : Stmt := topS 4
theorem sc_write_pattern : FnScope ["care", "value", "width", "signs", "bit"] ["care", "value", "width"] (defScope s_write_pattern) := ⟨rfl, rfl, rfl, by decide +kernel, rfl, by decide +kernel, by decide +kernel⟩
theorem tr_write_pattern : trL (ctOf ["care", "value", "width", "signs", "bit"] s_write_pattern [] B0 kl0) 60 (defBody s_write_pattern) = some (c_write_pattern) := by kernel_rfl
abbrev s_meet_cubes : Stmt := topS 5
theorem sc_meet_cubes : FnScope ["one", "other", "care", "value", "other_care", "other_value"] ["one", "other"] (defScope s_meet_cubes) := ⟨rfl, rfl, rfl, by decide +kernel, rfl, by decide +kernel, by decide +kernel⟩
theorem tr_meet_cubes : trL (ctOf ["one", "other", "care", "value", "other_care", "other_value"] s_meet_cubes [] B0 kl0) 60 (defBody s_meet_cubes) = some (c_meet_cubes) := by kernel_rfl
abbrev s_halves : Stmt := topS 6
theorem sc_halves : FnScope ["lot", "width", "size"] ["lot", "width"] (defScope s_halves) := ⟨rfl, rfl, rfl, by decide +kernel, rfl, by decide +kernel, by decide +kernel⟩
theorem tr_halves (p_all_lot : Spec) : trL (ctOf ["lot", "width", "size"] s_halves [("all_lot", 1, p_all_lot)] B0 kl0) 60 (defBody s_halves) = some (c_halves p_all_lot) := by kernel_rfl
abbrev s_cubes_of : Stmt := topS 7
theorem sc_cubes_of : FnScope ["lot", "width", "found", "pending", "part", "left", "care", "value", "low", "high", "bit"] ["lot", "width"] (defScope s_cubes_of) := ⟨rfl, rfl, rfl, by decide +kernel, rfl, by decide +kernel, by decide +kernel⟩
theorem tr_cubes_of (p_halves : Spec) : trL (ctOf ["lot", "width", "found", "pending", "part", "left", "care", "value", "low", "high", "bit"] s_cubes_of [("halves", 2, p_halves)] B0 kl0) 60 (defBody s_cubes_of) = some (c_cubes_of p_halves) := by kernel_rfl
abbrev s_law_begin : Stmt := topS 9
theorem sc_law_begin : FnScope ["script"] ["script"] (defScope s_law_begin) := ⟨rfl, rfl, rfl, by decide +kernel, rfl, by decide +kernel, by decide +kernel⟩
theorem tr_law_begin : trL (ctOf ["script"] s_law_begin [] B0 kl0) 60 (defBody s_law_begin) = some (c_law_begin) := by kernel_rfl
abbrev s_law_draw : Stmt := topS 10
theorem sc_law_draw : FnScope ["d", "many", "cell", "number", "digit", "mixed"] ["d", "many"] (defScope s_law_draw) := ⟨rfl, rfl, rfl, by decide +kernel, rfl, by decide +kernel, by decide +kernel⟩
theorem tr_law_draw : trL (ctOf ["d", "many", "cell", "number", "digit", "mixed"] s_law_draw [] B0 kl0) 60 (defBody s_law_draw) = some (c_law_draw) := by kernel_rfl
abbrev s_law_pick : Stmt := topS 11
theorem sc_law_pick : FnScope ["d", "row"] ["d", "row"] (defScope s_law_pick) := ⟨rfl, rfl, rfl, by decide +kernel, rfl, by decide +kernel, by decide +kernel⟩
theorem tr_law_pick (p_law_draw : Spec) : trL (ctOf ["d", "row"] s_law_pick [("_law_draw", 2, p_law_draw)] B0 kl0) 60 (defBody s_law_pick) = some (c_law_pick p_law_draw) := by kernel_rfl
abbrev s_law_lot : Stmt := topS 12
theorem sc_law_lot : FnScope ["headers", "lot", "header"] ["headers"] (defScope s_law_lot) := ⟨rfl, rfl, rfl, by decide +kernel, rfl, by decide +kernel, by decide +kernel⟩
theorem tr_law_lot : trL (ctOf ["headers", "lot", "header"] s_law_lot [] B0 kl0) 60 (defBody s_law_lot) = some (c_law_lot) := by kernel_rfl
abbrev s_law_cube : Stmt := topS 13
theorem sc_law_cube : FnScope ["d", "bits", "care"] ["d", "bits"] (defScope s_law_cube) := ⟨rfl, rfl, rfl, by decide +kernel, rfl, by decide +kernel, by decide +kernel⟩
theorem tr_law_cube (p_law_draw : Spec) : trL (ctOf ["d", "bits", "care"] s_law_cube [("_law_draw", 2, p_law_draw)] B0 kl0) 60 (defBody s_law_cube) = some (c_law_cube p_law_draw) := by kernel_rfl
abbrev s_law_pattern : Stmt := topS 14
theorem sc_law_pattern : FnScope ["care", "value", "bits", "text", "bit", "place", "sign"] ["care", "value", "bits"] (defScope s_law_pattern) := ⟨rfl, rfl, rfl, by decide +kernel, rfl, by decide +kernel, by decide +kernel⟩
theorem tr_law_pattern : trL (ctOf ["care", "value", "bits", "text", "bit", "place", "sign"] s_law_pattern [] B0 kl0) 60 (defBody s_law_pattern) = some (c_law_pattern) := by kernel_rfl
abbrev s_law_cubes : Stmt := topS 15
theorem sc_law_cubes : FnScope ["headers", "bits", "half", "low", "header", "high", "first", "care", "value"] ["headers", "bits"] (defScope s_law_cubes) := ⟨rfl, rfl, rfl, by decide +kernel, rfl, by decide +kernel, by decide +kernel⟩
theorem tr_law_cubes (p_law_cubes : Spec) : trL (ctOf ["headers", "bits", "half", "low", "header", "high", "first", "care", "value"] s_law_cubes [("_law_cubes", 2, p_law_cubes)] B0 kl0) 60 (defBody s_law_cubes) = some (c_law_cubes p_law_cubes) := by kernel_rfl
abbrev s_law_headers : Stmt := topS 16
theorem sc_law_headers : FnScope ["d", "width", "way", "many", "header", "cubes", "step", "cube"] ["d", "width"] (defScope s_law_headers) := ⟨rfl, rfl, rfl, by decide +kernel, rfl, by decide +kernel, by decide +kernel⟩
theorem tr_law_headers (p_law_draw : Spec) (p_law_pick : Spec) (p_law_cube : Spec) : trL (ctOf ["d", "width", "way", "many", "header", "cubes", "step", "cube"] s_law_headers [("_law_draw", 2, p_law_draw), ("_law_pick", 2, p_law_pick), ("_law_cube", 2, p_law_cube)] B0 kl0) 60 (defBody s_law_headers) = some (c_law_headers p_law_draw p_law_pick p_law_cube) := by kernel_rfl
abbrev s_law : Stmt := topS 17
theorem sc_law : FnScope ["script", "d", "width", "many", "step", "headers", "cubes", "header", "inside", "cube", "one", "other", "both", "met", "text", "place", "odd"] ["script"] (defScope s_law) := ⟨rfl, rfl, rfl, by decide +kernel, rfl, by decide +kernel, by decide +kernel⟩
theorem tr_law (p_law_begin : Spec) (p_law_draw : Spec) (p_law_headers : Spec) (p_cubes_of : Spec) (p_law_lot : Spec) (p_law_cubes : Spec) (p_law_cube : Spec) (p_meet_cubes : Spec) (p_law_pattern : Spec) (p_read_pattern : Spec) (p_write_pattern : Spec) : trL (ctOf ["script", "d", "width", "many", "step", "headers", "cubes", "header", "inside", "cube", "one", "other", "both", "met", "text", "place", "odd"] s_law [("_law_begin", 1, p_law_begin), ("_law_draw", 2, p_law_draw), ("_law_headers", 2, p_law_headers), ("cubes_of", 2, p_cubes_of), ("_law_lot", 1, p_law_lot), ("_law_cubes", 2, p_law_cubes), ("_law_cube", 2, p_law_cube), ("meet_cubes", 2, p_meet_cubes), ("_law_pattern", 3, p_law_pattern), ("read_pattern", 2, p_read_pattern), ("write_pattern", 3, p_write_pattern)] B0 kl0) 60 (defBody s_law) = some (c_law p_law_begin p_law_draw p_law_headers p_cubes_of p_law_lot p_law_cubes p_law_cube p_meet_cubes p_law_pattern p_read_pattern p_write_pattern) := by kernel_rfl
theorem all_mk {l : PySem.W.OpenLaw} {w : World} {K : PySem.W.Frag} {h : Heap} {mg : Str → Option Value} {fa : Addr} (X : K.In h) (G : h.Ns mainGlobals mg) (hfa : mg "law" = some (.ref fa))
    {f0 : Addr} {od0 an0 : Option Addr} {sl0 : Array (Option Value)} {oc0 kV0 dc0 pm0 cd0 ct0 : Value}
    {f1 : Addr} {od1 an1 : Option Addr} {sl1 : Array (Option Value)} {oc1 kV1 dc1 pm1 cd1 ct1 : Value}
    {f2 : Addr} {od2 an2 : Option Addr} {sl2 : Array (Option Value)} {oc2 kV2 dc2 pm2 cd2 ct2 : Value}
    {f3 : Addr} {od3 an3 : Option Addr} {sl3 : Array (Option Value)} {oc3 kV3 dc3 pm3 cd3 ct3 : Value}
    {f4 : Addr} {od4 an4 : Option Addr} {sl4 : Array (Option Value)} {oc4 kV4 dc4 pm4 cd4 ct4 : Value}
    {f5 : Addr} {od5 an5 : Option Addr} {sl5 : Array (Option Value)} {oc5 kV5 dc5 pm5 cd5 ct5 : Value}
    {f6 : Addr} {od6 an6 : Option Addr} {sl6 : Array (Option Value)} {oc6 kV6 dc6 pm6 cd6 ct6 : Value}
    {f7 : Addr} {od7 an7 : Option Addr} {sl7 : Array (Option Value)} {oc7 kV7 dc7 pm7 cd7 ct7 : Value}
    {f8 : Addr} {od8 an8 : Option Addr} {sl8 : Array (Option Value)} {oc8 kV8 dc8 pm8 cd8 ct8 : Value}
    {f9 : Addr} {od9 an9 : Option Addr} {sl9 : Array (Option Value)} {oc9 kV9 dc9 pm9 cd9 ct9 : Value}
    {f10 : Addr} {od10 an10 : Option Addr} {sl10 : Array (Option Value)} {oc10 kV10 dc10 pm10 cd10 ct10 : Value}
    {f11 : Addr} {od11 an11 : Option Addr} {sl11 : Array (Option Value)} {oc11 kV11 dc11 pm11 cd11 ct11 : Value}
    {f12 : Addr} {od12 an12 : Option Addr} {sl12 : Array (Option Value)} {oc12 kV12 dc12 pm12 cd12 ct12 : Value}
    {f13 : Addr} {od13 an13 : Option Addr} {sl13 : Array (Option Value)} {oc13 kV13 dc13 pm13 cd13 ct13 : Value}
    {f14 : Addr} {od14 an14 : Option Addr} {sl14 : Array (Option Value)} {oc14 kV14 dc14 pm14 cd14 ct14 : Value}
    (a0 : PySem.W.nsIn K mainGlobals "all_lot" = some (some (.ref f0))) (l0 : K.lookup f0 = some ⟨oc0, od0, .func (PySem.W.fnOf "all_lot" "all_lot" (defArgs s_all_lot) (defBody s_all_lot) (defScope s_all_lot) .none kV0 dc0 pm0 an0 cd0 ct0), sl0⟩) (c0 : PySem.W.codeIn K cd0 "all_lot" = true) (k0 : PySem.W.keepIn K (.ref f0) = true)
    (a1 : PySem.W.nsIn K mainGlobals "read_pattern" = some (some (.ref f1))) (l1 : K.lookup f1 = some ⟨oc1, od1, .func (PySem.W.fnOf "read_pattern" "read_pattern" (defArgs s_read_pattern) (defBody s_read_pattern) (defScope s_read_pattern) .none kV1 dc1 pm1 an1 cd1 ct1), sl1⟩) (c1 : PySem.W.codeIn K cd1 "read_pattern" = true) (k1 : PySem.W.keepIn K (.ref f1) = true)
    (a2 : PySem.W.nsIn K mainGlobals "write_pattern" = some (some (.ref f2))) (l2 : K.lookup f2 = some ⟨oc2, od2, .func (PySem.W.fnOf "write_pattern" "write_pattern" (defArgs s_write_pattern) (defBody s_write_pattern) (defScope s_write_pattern) .none kV2 dc2 pm2 an2 cd2 ct2), sl2⟩) (c2 : PySem.W.codeIn K cd2 "write_pattern" = true) (k2 : PySem.W.keepIn K (.ref f2) = true)
    (a3 : PySem.W.nsIn K mainGlobals "meet_cubes" = some (some (.ref f3))) (l3 : K.lookup f3 = some ⟨oc3, od3, .func (PySem.W.fnOf "meet_cubes" "meet_cubes" (defArgs s_meet_cubes) (defBody s_meet_cubes) (defScope s_meet_cubes) .none kV3 dc3 pm3 an3 cd3 ct3), sl3⟩) (c3 : PySem.W.codeIn K cd3 "meet_cubes" = true) (k3 : PySem.W.keepIn K (.ref f3) = true)
    (a4 : PySem.W.nsIn K mainGlobals "halves" = some (some (.ref f4))) (l4 : K.lookup f4 = some ⟨oc4, od4, .func (PySem.W.fnOf "halves" "halves" (defArgs s_halves) (defBody s_halves) (defScope s_halves) .none kV4 dc4 pm4 an4 cd4 ct4), sl4⟩) (c4 : PySem.W.codeIn K cd4 "halves" = true) (k4 : PySem.W.keepIn K (.ref f4) = true)
    (a5 : PySem.W.nsIn K mainGlobals "cubes_of" = some (some (.ref f5))) (l5 : K.lookup f5 = some ⟨oc5, od5, .func (PySem.W.fnOf "cubes_of" "cubes_of" (defArgs s_cubes_of) (defBody s_cubes_of) (defScope s_cubes_of) .none kV5 dc5 pm5 an5 cd5 ct5), sl5⟩) (c5 : PySem.W.codeIn K cd5 "cubes_of" = true) (k5 : PySem.W.keepIn K (.ref f5) = true)
    (a6 : PySem.W.nsIn K mainGlobals "_law_begin" = some (some (.ref f6))) (l6 : K.lookup f6 = some ⟨oc6, od6, .func (PySem.W.fnOf "_law_begin" "_law_begin" (defArgs s_law_begin) (defBody s_law_begin) (defScope s_law_begin) .none kV6 dc6 pm6 an6 cd6 ct6), sl6⟩) (c6 : PySem.W.codeIn K cd6 "_law_begin" = true) (k6 : PySem.W.keepIn K (.ref f6) = true)
    (a7 : PySem.W.nsIn K mainGlobals "_law_draw" = some (some (.ref f7))) (l7 : K.lookup f7 = some ⟨oc7, od7, .func (PySem.W.fnOf "_law_draw" "_law_draw" (defArgs s_law_draw) (defBody s_law_draw) (defScope s_law_draw) .none kV7 dc7 pm7 an7 cd7 ct7), sl7⟩) (c7 : PySem.W.codeIn K cd7 "_law_draw" = true) (k7 : PySem.W.keepIn K (.ref f7) = true)
    (a8 : PySem.W.nsIn K mainGlobals "_law_pick" = some (some (.ref f8))) (l8 : K.lookup f8 = some ⟨oc8, od8, .func (PySem.W.fnOf "_law_pick" "_law_pick" (defArgs s_law_pick) (defBody s_law_pick) (defScope s_law_pick) .none kV8 dc8 pm8 an8 cd8 ct8), sl8⟩) (c8 : PySem.W.codeIn K cd8 "_law_pick" = true) (k8 : PySem.W.keepIn K (.ref f8) = true)
    (a9 : PySem.W.nsIn K mainGlobals "_law_lot" = some (some (.ref f9))) (l9 : K.lookup f9 = some ⟨oc9, od9, .func (PySem.W.fnOf "_law_lot" "_law_lot" (defArgs s_law_lot) (defBody s_law_lot) (defScope s_law_lot) .none kV9 dc9 pm9 an9 cd9 ct9), sl9⟩) (c9 : PySem.W.codeIn K cd9 "_law_lot" = true) (k9 : PySem.W.keepIn K (.ref f9) = true)
    (a10 : PySem.W.nsIn K mainGlobals "_law_cube" = some (some (.ref f10))) (l10 : K.lookup f10 = some ⟨oc10, od10, .func (PySem.W.fnOf "_law_cube" "_law_cube" (defArgs s_law_cube) (defBody s_law_cube) (defScope s_law_cube) .none kV10 dc10 pm10 an10 cd10 ct10), sl10⟩) (c10 : PySem.W.codeIn K cd10 "_law_cube" = true) (k10 : PySem.W.keepIn K (.ref f10) = true)
    (a11 : PySem.W.nsIn K mainGlobals "_law_pattern" = some (some (.ref f11))) (l11 : K.lookup f11 = some ⟨oc11, od11, .func (PySem.W.fnOf "_law_pattern" "_law_pattern" (defArgs s_law_pattern) (defBody s_law_pattern) (defScope s_law_pattern) .none kV11 dc11 pm11 an11 cd11 ct11), sl11⟩) (c11 : PySem.W.codeIn K cd11 "_law_pattern" = true) (k11 : PySem.W.keepIn K (.ref f11) = true)
    (a12 : PySem.W.nsIn K mainGlobals "_law_cubes" = some (some (.ref f12))) (l12 : K.lookup f12 = some ⟨oc12, od12, .func (PySem.W.fnOf "_law_cubes" "_law_cubes" (defArgs s_law_cubes) (defBody s_law_cubes) (defScope s_law_cubes) .none kV12 dc12 pm12 an12 cd12 ct12), sl12⟩) (c12 : PySem.W.codeIn K cd12 "_law_cubes" = true) (k12 : PySem.W.keepIn K (.ref f12) = true)
    (a13 : PySem.W.nsIn K mainGlobals "_law_headers" = some (some (.ref f13))) (l13 : K.lookup f13 = some ⟨oc13, od13, .func (PySem.W.fnOf "_law_headers" "_law_headers" (defArgs s_law_headers) (defBody s_law_headers) (defScope s_law_headers) .none kV13 dc13 pm13 an13 cd13 ct13), sl13⟩) (c13 : PySem.W.codeIn K cd13 "_law_headers" = true) (k13 : PySem.W.keepIn K (.ref f13) = true)
    (a14 : PySem.W.nsIn K mainGlobals "law" = some (some (.ref f14))) (l14 : K.lookup f14 = some ⟨oc14, od14, .func (PySem.W.fnOf "law" "law" (defArgs s_law) (defBody s_law) (defScope s_law) .none kV14 dc14 pm14 an14 cd14 ct14), sl14⟩) (c14 : PySem.W.codeIn K cd14 "law" = true) (k14 : PySem.W.keepIn K (.ref f14) = true)
    (z0 : PySem.W.nsIn K mainGlobals "int" = some none)
    (z1 : PySem.W.nsIn K mainGlobals "isinstance" = some none)
    (z2 : PySem.W.nsIn K mainGlobals "len" = some none)
    (z3 : PySem.W.nsIn K mainGlobals "list" = some none)
    (z4 : PySem.W.nsIn K mainGlobals "range" = some none)
    (z5 : PySem.W.nsIn K mainGlobals "str" = some none)
    (z6 : PySem.W.nsIn K mainGlobals "tuple" = some none) :
    ∃ fd : FuncData, (∀ (s : Shared) (v : Value), BindsTo s fd ⟨[v], []⟩ [("script", v)]) ∧ ∀ base : Heap, K.In base → base.Ns mainGlobals mg → FnOk l.prog w K mg base CX0 8 fa fd ["script"] (spLaw K) := by
  have e := hfa.symm.trans (PySem.W.mg_of X G a14)
  cases e
  have F0 := fun_mk (st := s_all_lot) l0 c0 k0
  have b0 := F0.binds (ps := ["width"]) fun _ _ _ _ _ _ us hl => match us, hl with | [_], _ => rfl
  have F1 := fun_mk (st := s_read_pattern) l1 c1 k1
  have b1 := F1.binds (ps := ["text", "width"]) fun _ _ _ _ _ _ us hl => match us, hl with | [_, _], _ => rfl
  have F2 := fun_mk (st := s_write_pattern) l2 c2 k2
  have b2 := F2.binds (ps := ["care", "value", "width"]) fun _ _ _ _ _ _ us hl => match us, hl with | [_, _, _], _ => rfl
  have F3 := fun_mk (st := s_meet_cubes) l3 c3 k3
  have b3 := F3.binds (ps := ["one", "other"]) fun _ _ _ _ _ _ us hl => match us, hl with | [_, _], _ => rfl
  have F4 := fun_mk (st := s_halves) l4 c4 k4
  have b4 := F4.binds (ps := ["lot", "width"]) fun _ _ _ _ _ _ us hl => match us, hl with | [_, _], _ => rfl
  have F5 := fun_mk (st := s_cubes_of) l5 c5 k5
  have b5 := F5.binds (ps := ["lot", "width"]) fun _ _ _ _ _ _ us hl => match us, hl with | [_, _], _ => rfl
  have F6 := fun_mk (st := s_law_begin) l6 c6 k6
  have b6 := F6.binds (ps := ["script"]) fun _ _ _ _ _ _ us hl => match us, hl with | [_], _ => rfl
  have F7 := fun_mk (st := s_law_draw) l7 c7 k7
  have b7 := F7.binds (ps := ["d", "many"]) fun _ _ _ _ _ _ us hl => match us, hl with | [_, _], _ => rfl
  have F8 := fun_mk (st := s_law_pick) l8 c8 k8
  have b8 := F8.binds (ps := ["d", "row"]) fun _ _ _ _ _ _ us hl => match us, hl with | [_, _], _ => rfl
  have F9 := fun_mk (st := s_law_lot) l9 c9 k9
  have b9 := F9.binds (ps := ["headers"]) fun _ _ _ _ _ _ us hl => match us, hl with | [_], _ => rfl
  have F10 := fun_mk (st := s_law_cube) l10 c10 k10
  have b10 := F10.binds (ps := ["d", "bits"]) fun _ _ _ _ _ _ us hl => match us, hl with | [_, _], _ => rfl
  have F11 := fun_mk (st := s_law_pattern) l11 c11 k11
  have b11 := F11.binds (ps := ["care", "value", "bits"]) fun _ _ _ _ _ _ us hl => match us, hl with | [_, _, _], _ => rfl
  have F12 := fun_mk (st := s_law_cubes) l12 c12 k12
  have b12 := F12.binds (ps := ["headers", "bits"]) fun _ _ _ _ _ _ us hl => match us, hl with | [_, _], _ => rfl
  have F13 := fun_mk (st := s_law_headers) l13 c13 k13
  have b13 := F13.binds (ps := ["d", "width"]) fun _ _ _ _ _ _ us hl => match us, hl with | [_, _], _ => rfl
  have F14 := fun_mk (st := s_law) l14 c14 k14
  have hB : ∀ y ∈ B0, mg y = none := fun y hy => by
    simp only [B0, List.mem_cons, List.not_mem_nil, or_false] at hy
    rcases hy with rfl | rfl | rfl | rfl | rfl | rfl | rfl
    · exact PySem.W.mg_none_of X G z0
    · exact PySem.W.mg_none_of X G z1
    · exact PySem.W.mg_none_of X G z2
    · exact PySem.W.mg_none_of X G z3
    · exact PySem.W.mg_none_of X G z4
    · exact PySem.W.mg_none_of X G z5
    · exact PySem.W.mg_none_of X G z6
  refine ⟨PySem.W.fnOf "law" "law" (defArgs s_law) (defBody s_law) (defScope s_law) .none kV14 dc14 pm14 an14 cd14 ct14, fun s v => .of_eq rfl, fun base _ _ => ?_⟩
  have n0 : Known l.prog w K mg base 1 "all_lot" 1 sp_all_lot := known (k := 0) F0 sc_all_lot known_nil hB klOk0 (tr_all_lot) good_all_lot (PySem.W.mg_of X G a0) b0
  have n1 : Known l.prog w K mg base 1 "read_pattern" 2 sp_read_pattern := known (k := 0) F1 sc_read_pattern known_nil hB klOk0 (tr_read_pattern) good_read_pattern (PySem.W.mg_of X G a1) b1
  have n2 : Known l.prog w K mg base 1 "write_pattern" 3 sp_write_pattern := known (k := 0) F2 sc_write_pattern known_nil hB klOk0 (tr_write_pattern) good_write_pattern (PySem.W.mg_of X G a2) b2
  have n3 : Known l.prog w K mg base 1 "meet_cubes" 2 sp_meet_cubes := known (k := 0) F3 sc_meet_cubes known_nil hB klOk0 (tr_meet_cubes) good_meet_cubes (PySem.W.mg_of X G a3) b3
  have n4 : Known l.prog w K mg base 2 "halves" 2 sp_halves := known (k := 1) F4 sc_halves (known_cons (n0.mono (by decide)) known_nil) hB klOk0 (tr_halves sp_all_lot) good_halves (PySem.W.mg_of X G a4) b4
  have n5 : Known l.prog w K mg base 3 "cubes_of" 2 sp_cubes_of := known (k := 2) F5 sc_cubes_of (known_cons (n4.mono (by decide)) known_nil) hB klOk0 (tr_cubes_of sp_halves) good_cubes_of (PySem.W.mg_of X G a5) b5
  have n6 : Known l.prog w K mg base 1 "_law_begin" 1 sp_law_begin := known (k := 0) F6 sc_law_begin known_nil hB klOk0 (tr_law_begin) good_law_begin (PySem.W.mg_of X G a6) b6
  have n7 : Known l.prog w K mg base 1 "_law_draw" 2 sp_law_draw := known (k := 0) F7 sc_law_draw known_nil hB klOk0 (tr_law_draw) good_law_draw (PySem.W.mg_of X G a7) b7
  have n8 : Known l.prog w K mg base 2 "_law_pick" 2 sp_law_pick := known (k := 1) F8 sc_law_pick (known_cons (n7.mono (by decide)) known_nil) hB klOk0 (tr_law_pick sp_law_draw) good_law_pick (PySem.W.mg_of X G a8) b8
  have n9 : Known l.prog w K mg base 1 "_law_lot" 1 sp_law_lot := known (k := 0) F9 sc_law_lot known_nil hB klOk0 (tr_law_lot) good_law_lot (PySem.W.mg_of X G a9) b9
  have n10 : Known l.prog w K mg base 2 "_law_cube" 2 sp_law_cube := known (k := 1) F10 sc_law_cube (known_cons (n7.mono (by decide)) known_nil) hB klOk0 (tr_law_cube sp_law_draw) good_law_cube (PySem.W.mg_of X G a10) b10
  have n11 : Known l.prog w K mg base 1 "_law_pattern" 3 sp_law_pattern := known (k := 0) F11 sc_law_pattern known_nil hB klOk0 (tr_law_pattern) good_law_pattern (PySem.W.mg_of X G a11) b11
  have r12 : ∀ m, Known l.prog w K mg base (1 + m) "_law_cubes" 2 (sp_law_cubesN m) := fun m => by
    induction m with
    | zero => exact known (k := 0) F12 sc_law_cubes (known_cons (known_no F12 (PySem.W.mg_of X G a12) b12) known_nil) hB klOk0 (tr_law_cubes (rec_law_cubes 0)) (good_law_cubes 0) (PySem.W.mg_of X G a12) b12
    | succ m ih => exact known (k := 1 + m) F12 sc_law_cubes (known_cons ih known_nil) hB klOk0 (tr_law_cubes (rec_law_cubes (m + 1))) (good_law_cubes (m + 1)) (PySem.W.mg_of X G a12) b12
  have n12 := r12 6
  have n13 : Known l.prog w K mg base 3 "_law_headers" 2 sp_law_headers := known (k := 2) F13 sc_law_headers (known_cons (n7.mono (by decide)) (known_cons (n8.mono (by decide)) (known_cons (n10.mono (by decide)) known_nil))) hB klOk0 (tr_law_headers sp_law_draw sp_law_pick sp_law_cube) good_law_headers (PySem.W.mg_of X G a13) b13
  exact law_imp (def_ok (k := 7) F14 sc_law (known_cons (n6.mono (by decide)) (known_cons (n7.mono (by decide)) (known_cons (n13.mono (by decide)) (known_cons (n5.mono (by decide)) (known_cons (n9.mono (by decide)) (known_cons (n12.mono (by decide)) (known_cons (n10.mono (by decide)) (known_cons (n3.mono (by decide)) (known_cons (n11.mono (by decide)) (known_cons (n1.mono (by decide)) (known_cons (n2.mono (by decide)) known_nil))))))))))) hB klOk0 (tr_law sp_law_begin sp_law_draw sp_law_headers sp_cubes_of sp_law_lot sp_law_cubes sp_law_cube sp_meet_cubes sp_law_pattern sp_read_pattern sp_write_pattern) good_law) fun ns S Q q => ⟨ns, rfl, q⟩
end WW
open PySem PySem.W PyProof.Rows
set_option maxHeartbeats 0 in
theorem PySem.Challenge.cw_wishweather_k04_cubes_part_a_lot_holds : PySem.Challenge.rw_wishweather_k04_cubes_part_a_lot.Holds := by
  w_on; o_law; k_head; (case hw => w_witness2)
  k_fill
  refine L2.walk_of (l := PySem.Challenge.rw_wishweather_k04_cubes_part_a_lot) (n := 63) (k := 8) (x := "script") (CX := fun _ => L2.CX0) (sp := fun w => WW.spLaw _) rfl (by decide) rfl ⟨rfl, by decide, by decide⟩ (fun w h Y => PySem.W.kIn_of Y) ?F (fun _ _ a ns hl hO hS => ⟨a, ns, rfl, hO, hS, fun _ => rfl⟩) (fun _ _ _ _ _ h => h)
  case F =>
    intro w mg fa h KX G hmg
    refine' WW.all_mk KX G hmg ?a0 ?l0 ?c0 ?k0 ?a1 ?l1 ?c1 ?k1 ?a2 ?l2 ?c2 ?k2 ?a3 ?l3 ?c3 ?k3 ?a4 ?l4 ?c4 ?k4 ?a5 ?l5 ?c5 ?k5 ?a6 ?l6 ?c6 ?k6 ?a7 ?l7 ?c7 ?k7 ?a8 ?l8 ?c8 ?k8 ?a9 ?l9 ?c9 ?k9 ?a10 ?l10 ?c10 ?k10 ?a11 ?l11 ?c11 ?k11 ?a12 ?l12 ?c12 ?k12 ?a13 ?l13 ?c13 ?k13 ?a14 ?l14 ?c14 ?k14 ?z0 ?z1 ?z2 ?z3 ?z4 ?z5 ?z6
    (case a0 => k_is); (case l0 => k_is); (case c0 => k_is); (case k0 => k_is); (case a1 => k_is); (case l1 => k_is); (case c1 => k_is); (case k1 => k_is); (case a2 => k_is); (case l2 => k_is); (case c2 => k_is); (case k2 => k_is); (case a3 => k_is); (case l3 => k_is); (case c3 => k_is); (case k3 => k_is); (case a4 => k_is); (case l4 => k_is); (case c4 => k_is); (case k4 => k_is); (case a5 => k_is); (case l5 => k_is); (case c5 => k_is); (case k5 => k_is); (case a6 => k_is); (case l6 => k_is); (case c6 => k_is); (case k6 => k_is); (case a7 => k_is); (case l7 => k_is); (case c7 => k_is); (case k7 => k_is); (case a8 => k_is); (case l8 => k_is); (case c8 => k_is); (case k8 => k_is); (case a9 => k_is); (case l9 => k_is); (case c9 => k_is); (case k9 => k_is); (case a10 => k_is); (case l10 => k_is); (case c10 => k_is); (case k10 => k_is); (case a11 => k_is); (case l11 => k_is); (case c11 => k_is); (case k11 => k_is); (case a12 => k_is); (case l12 => k_is); (case c12 => k_is); (case k12 => k_is); (case a13 => k_is); (case l13 => k_is); (case c13 => k_is); (case k13 => k_is); (case a14 => k_is); (case l14 => k_is); (case c14 => k_is); (case k14 => k_is); (case z0 => k_is); (case z1 => k_is); (case z2 => k_is); (case z3 => k_is); (case z4 => k_is); (case z5 => k_is); (case z6 => k_is)


