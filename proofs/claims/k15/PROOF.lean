import PyProof.Rows.All
import Wide.All
import OpenK.AllK
import Wide.FinOn
import HandS.ForMost
import HandS.ForExc
import HandS.CallSlots
import HandS.Walk
import HandS.Conv
import HandS.FStr
import HandS.IsInst
import HandS.Lambda
import HandS.EndTab
import HandS.EndOwn
import HandS.HotCalls
import HandS.TryMany
import HandS.Wide
import HandS.TupAny
import KE.DatumOrd
import HandS.StrMore
import HandS.Style
import HandS.ExcCtx
import HandS.Hot
import PyProof.ZipIter
import HandS.Iter
import HandS.ExcIs
import KE.KNestM
import PySem.Challenge.RW_lookrounds_k15_rules_as_texts
set_option Elab.async false
set_option linter.all false
set_option maxRecDepth 100000
set_option maxHeartbeats 4000000
/-! DL1: values as plain data, what a def's slots hold, how it lies in the abstract heap. -/
namespace DL
open PySem PySem.Spec PyProof.Rows L2

/-- a value as data -/
inductive D where
  | non | bl (b : Bool) | int (i : Int) | str (x : Str) | tup (xs : List D) | lst (xs : List D) | dic (kvs : List (D × D)) | fn (n : Str)
  /-- a list that nobody changes (the script) -/
  | scr (xs : List D)
  /-- the exception that is handled -/
  | exc
/-- the content of an object that one slot owns -/
inductive OC where
  | lst (xs : List D) | dic (kvs : List (D × D))
def OC.toD : OC → D
  | .lst xs => .lst xs
  | .dic kvs => .dic kvs
/-- what a slot holds: data, or an object of its own -/
inductive SV where
  | d (x : D) | o (c : OC)
def SV.toD : SV → D
  | .d x => x
  | .o c => c.toD
abbrev Rho := List (Option SV)
/-- an exception: its class's name, its field -/
structure Ex where
  cls : Str
  fld : Option (Str × D)
/-- the written part: the fragment, the module's names, the tables of code objects -/
structure Zx where
  K : PySem.W.Frag
  mg : Str → Option Value
  T : List (Addr × Str)
  /-- where the handled exception stands -/
  ea : Addr := 0

mutual
inductive Den (Z : Zx) (G : Hp) : V → D → Prop where
  | non : Den Z G .non .non
  | bl (b : Bool) : Den Z G (.bl b) (.bl b)
  | int (i : Int) : Den Z G (.int i) (.int i)
  | str (x : Str) : Den Z G (.str x) (.str x)
  | tup {a : Addr} {vs : List V} {ds : List D} : SqT Z.K G a vs → DenL Z G vs ds → Den Z G (.ref a) (.tup ds)
  | lst {a : Addr} {vs : List V} {ds : List D} : G a = some (.lst vs) → DenL Z G vs ds → Den Z G (.ref a) (.lst ds)
  | scr {a : Addr} {vs : List V} {ds : List D} : SqL Z.K G a vs → DenL Z G vs ds → Den Z G (.ref a) (.scr ds)
  | fn {n : Str} {f : Addr} : Z.mg n = some (.ref f) → Den Z G (.ref f) (.fn n)
  | exc : Den Z G (.ref Z.ea) .exc
inductive DenL (Z : Zx) (G : Hp) : List V → List D → Prop where
  | nil : DenL Z G [] []
  | cons {v : V} {vs : List V} {d : D} {ds : List D} : Den Z G v d → DenL Z G vs ds → DenL Z G (v :: vs) (d :: ds)
end

theorem sqT_mono {K : PySem.W.Frag} {H H' : Hp} {a : Addr} {xs : List V} (e : Same H H') (h : SqT K H a xs) : SqT K H' a xs := by
  rcases h with (h | ⟨o, h⟩) | h
  · exact .inl (.inl (e _ _ h))
  · exact .inl (.inr ⟨o, e _ _ h⟩)
  · exact .inr h
mutual
theorem Den.mono {Z : Zx} {G G' : Hp} (e : Same G G') : ∀ {v : V} {d : D}, Den Z G v d → Den Z G' v d
  | _, _, .non => .non
  | _, _, .bl b => .bl b
  | _, _, .int i => .int i
  | _, _, .str x => .str x
  | _, _, .tup h t => .tup (sqT_mono e h) (DenL.mono e t)
  | _, _, .lst h t => .lst (e _ _ h) (DenL.mono e t)
  | _, _, .scr h t => .scr (Same.seq e h) (DenL.mono e t)
  | _, _, .fn h => .fn h
  | _, _, .exc => .exc
theorem DenL.mono {Z : Zx} {G G' : Hp} (e : Same G G') : ∀ {vs : List V} {ds : List D}, DenL Z G vs ds → DenL Z G' vs ds
  | _, _, .nil => .nil
  | _, _, .cons h t => .cons (Den.mono e h) (DenL.mono e t)
end
section
variable {Z : Zx} {G : Hp}
theorem DenL.length : ∀ {vs : List V} {ds : List D}, DenL Z G vs ds → vs.length = ds.length
  | _, _, .nil => rfl
  | _, _, .cons _ t => by simp only [List.length_cons, DenL.length t]
theorem DenL.get : ∀ {vs : List V} {ds : List D} {i : Nat} {d : D}, DenL Z G vs ds → ds[i]? = some d → ∃ v, vs[i]? = some v ∧ Den Z G v d
  | _, _, _, _, .nil, e => by simp at e
  | _, _, 0, _, .cons h _, e => by simp at e; subst e; exact ⟨_, rfl, h⟩
  | _, _, i + 1, _, .cons _ t, e => by
    obtain ⟨v, h1, h2⟩ := DenL.get (i := i) t (by simpa using e)
    exact ⟨v, by simpa using h1, h2⟩
theorem DenL.getV : ∀ {vs : List V} {ds : List D} {i : Nat} {v : V}, DenL Z G vs ds → vs[i]? = some v → ∃ d, ds[i]? = some d ∧ Den Z G v d
  | _, _, _, _, .nil, e => by simp at e
  | _, _, 0, _, .cons h _, e => by simp at e; subst e; exact ⟨_, rfl, h⟩
  | _, _, i + 1, _, .cons _ t, e => by
    obtain ⟨v, h1, h2⟩ := DenL.getV (i := i) t (by simpa using e)
    exact ⟨v, by simpa using h1, h2⟩
theorem DenL.append : ∀ {vs ws : List V} {ds es : List D}, DenL Z G vs ds → DenL Z G ws es → DenL Z G (vs ++ ws) (ds ++ es)
  | _, _, _, _, .nil, s => s
  | _, _, _, _, .cons h t, s => .cons h (DenL.append t s)
theorem DenL.take : ∀ {vs : List V} {ds : List D} (n : Nat), DenL Z G vs ds → DenL Z G (vs.take n) (ds.take n)
  | _, _, 0, _ => by simp only [List.take_zero]; exact .nil
  | _, _, _ + 1, .nil => .nil
  | _, _, n + 1, .cons h t => .cons h (DenL.take n t)
theorem DenL.drop : ∀ {vs : List V} {ds : List D} (n : Nat), DenL Z G vs ds → DenL Z G (vs.drop n) (ds.drop n)
  | _, _, 0, r => r
  | _, _, _ + 1, .nil => .nil
  | _, _, n + 1, .cons _ t => DenL.drop n t
theorem DenL.set {v : V} {d : D} (h : Den Z G v d) : ∀ {vs : List V} {ds : List D} (i : Nat), DenL Z G vs ds → DenL Z G (vs.set i v) (ds.set i d)
  | _, _, _, .nil => .nil
  | _, _, 0, .cons _ t => .cons h t
  | _, _, i + 1, .cons q t => .cons q (DenL.set h i t)
theorem DenL.reverse : ∀ {vs : List V} {ds : List D}, DenL Z G vs ds → DenL Z G vs.reverse ds.reverse
  | _, _, .nil => .nil
  | _, _, .cons h t => by
    rw [List.reverse_cons, List.reverse_cons]
    exact DenL.append (DenL.reverse t) (.cons h .nil)
theorem DenL.one {v : V} {d : D} (h : Den Z G v d) : DenL Z G [v] [d] := .cons h .nil
end

/-- no table of code objects -/
def NT (o : HO) : Prop := ∀ ps, o ≠ .tbl ps
theorem nt_lst {xs : List V} : NT (.lst xs) := fun _ z => by cases z
theorem nt_tup {xs : List V} : NT (.tup xs) := fun _ z => by cases z

/-- at p stands an object of this content -/
def OwnAt (Z : Zx) (G H : Hp) (p : Addr) : OC → Prop
  | .lst xs => ∃ vs, H p = some (.lst vs) ∧ DenL Z G vs xs
  | .dic _ => False
/-- the addresses of which it is made -/
def Fp (H : Hp) (p : Addr) (c : OC) (a : Addr) : Prop := a = p
section
variable {Z : Zx} {G G' H H' : Hp} {p a : Addr} {c : OC}
theorem OwnAt.keep (h : OwnAt Z G H p c) (k : ∀ a, Fp H p c a → H' a = H a) : OwnAt Z G H' p c := by
  cases c with
  | lst xs =>
    obtain ⟨vs, h1, h2⟩ := h
    exact ⟨vs, by rw [k p rfl]; exact h1, h2⟩
  | dic kvs => exact h
theorem Fp.keep (k : ∀ a, Fp H p c a → H' a = H a) : Fp H' p c a ↔ Fp H p c a := Iff.rfl
theorem OwnAt.monoG (h : OwnAt Z G H p c) (e : Same G G') : OwnAt Z G' H p c := by
  cases c with
  | lst xs =>
    obtain ⟨vs, h1, h2⟩ := h
    exact ⟨vs, h1, h2.mono e⟩
  | dic kvs => exact h
theorem OwnAt.dom (h : OwnAt Z G H p c) (f : Fp H p c a) : ∃ o, H a = some o ∧ NT o := by
  cases c with
  | lst xs =>
    obtain ⟨vs, h1, h2⟩ := h
    have e : a = p := f
    subst e
    exact ⟨_, h1, nt_lst⟩
  | dic kvs => exact h.elim
theorem OwnAt.here (h : OwnAt Z G H p c) : Fp H p c p := rfl
end

/-- where a piece of code began: the heap, the frozen part, the addresses that it may change, the parameters that are objects of the caller -/
structure Base where
  H0 : Hp
  G0 : Hp
  S : Addr → Prop
  io : List (Nat × Addr)
/-- no object stood there (a table of code objects may have) -/
def Base.New (B : Base) (a : Addr) : Prop := ∀ o, B.H0 a = some o → ¬ NT o
/-- the slots σ hold what ρ says; G: the frozen part of H -/
structure Rep (Z : Zx) (B : Base) (G H : Hp) (σ : L2.St) (ρ : Rho) : Prop where
  sub : Same G H
  fr : ∀ a o, B.H0 a = some o → ¬ B.S a → NT o → H a = some o
  new : ∀ a, G a ≠ none → B.G0 a ≠ none ∨ B.New a ∨ B.S a
  ext : Same B.G0 G
  ntb : ∀ a ps, G a ≠ some (.tbl ps)
  len : σ.length = ρ.length
  frz : ∀ (i : Nat) (x : D), ρ[i]? = some (some (SV.d x)) → ∃ v, σ[i]? = some (some v) ∧ Den Z G v x
  own : ∀ (i : Nat) (c : OC), ρ[i]? = some (some (SV.o c)) → ∃ p, σ[i]? = some (some (V.ref p)) ∧ OwnAt Z G H p c ∧ ∀ a, Fp H p c a → G a = none ∧ (B.S a ∨ B.New a)
  apart : ∀ (i j : Nat) (p q : Addr) (c d : OC) (a : Addr), ρ[i]? = some (some (SV.o c)) → ρ[j]? = some (some (SV.o d)) → σ[i]? = some (some (V.ref p)) → σ[j]? = some (some (V.ref q)) → i ≠ j → Fp H p c a → ¬ Fp H q d a
  io : ∀ x ∈ B.io, σ[x.1]? = some (some (V.ref x.2)) ∧ ∃ c, ρ[x.1]? = some (some (SV.o c))
  tab : LamX.Tabs Z.T H

/-- a value that an expression gave: data, or a new object -/
def RD (Z : Zx) (B : Base) (G H : Hp) (σ : L2.St) (ρ : Rho) (v : V) : SV → Prop
  | .d x => Den Z G v x
  | .o c => ∃ p, v = .ref p ∧ OwnAt Z G H p c ∧ ∀ a, Fp H p c a → G a = none ∧ (B.S a ∨ B.New a) ∧ ∀ (i : Nat) (q : Addr) (d : OC), ρ[i]? = some (some (SV.o d)) → σ[i]? = some (some (V.ref q)) → ¬ Fp H q d a

section
variable {Z : Zx} {B : Base} {G H : Hp} {σ : L2.St} {ρ : Rho}

theorem tabs_but {T : List (Addr × Str)} {H H' : Hp} (t : LamX.Tabs T H) (e : ∀ b o, H b = some o → (∀ xs, o ≠ .lst xs) → H' b = some o) : LamX.Tabs T H' := fun p hp => by
  obtain ⟨ps, h1, h2, h3⟩ := t p hp
  refine ⟨ps, e _ _ h1 (fun _ z => by cases z), h2, fun pos cv hc => ?_⟩
  obtain ⟨c, e1, e2⟩ := h3 pos cv hc
  refine ⟨c, e1, e _ _ e2 (fun _ z => ?_)⟩
  unfold LamX.CodeO at z
  cases z

theorem upd_keep {H : Hp} {a b : Addr} {o u : HO} (n : H a = none) (h : H b = some u) : upd H a o b = some u := by
  rw [upd_ne (ne_of_none h n)]; exact h
theorem same_upd {H : Hp} {a : Addr} {o : HO} (n : H a = none) : Same H (upd H a o) := fun _ _ h => upd_keep n h
theorem Rep.freeG (R : Rep Z B G H σ ρ) {a : Addr} (h : H a = none) : G a = none := by
  cases e : G a with
  | none => rfl
  | some o =>
    have := R.sub a o e
    rw [h] at this; cases this
theorem Rep.ownFree (R : Rep Z B G H σ ρ) {i : Nat} {c : OC} {p a b : Addr} (h : ρ[i]? = some (some (SV.o c))) (hp : σ[i]? = some (some (V.ref p))) (f : Fp H p c a) (n : H b = none) : a ≠ b := by
  obtain ⟨q, h1, h2, h3⟩ := R.own i c h
  have e : q = p := by rw [h1] at hp; injection hp with hp; injection hp with hp; injection hp
  subst e
  obtain ⟨o, ho, _⟩ := h2.dom f
  rintro rfl
  rw [n] at ho; cases ho
theorem Rep.ownP (R : Rep Z B G H σ ρ) {i : Nat} {c : OC} {p : Addr} (h : ρ[i]? = some (some (SV.o c))) (hp : σ[i]? = some (some (V.ref p))) : OwnAt Z G H p c ∧ ∀ a, Fp H p c a → G a = none ∧ (B.S a ∨ B.New a) := by
  obtain ⟨q, h1, h2, h3⟩ := R.own i c h
  have e : q = p := by rw [h1] at hp; injection hp with hp; injection hp with hp; injection hp
  subst e
  exact ⟨h2, h3⟩
theorem Rep.free1 (R : Rep Z B G H σ ρ) {a : Addr} (h : ∀ o, H a = some o → ¬ NT o) : B.S a ∨ B.New a := by
  by_cases s : B.S a
  · exact .inl s
  · exact .inr fun o e t => h o (R.fr a o e s t) t
theorem Rep.free0 (R : Rep Z B G H σ ρ) {a : Addr} (h : H a = none) : B.S a ∨ B.New a := R.free1 fun o e => by rw [h] at e; cases e

/-- a new object, not known to the slots -/
theorem Rep.newO (R : Rep Z B G H σ ρ) {p : Addr} {o : HO} (n : H p = none) : Rep Z B G (upd H p o) σ ρ where
  sub := fun a u e => upd_keep n (R.sub a u e)
  fr := fun a u e s t => upd_keep n (R.fr a u e s t)
  new := R.new
  ext := R.ext
  ntb := R.ntb
  len := R.len
  frz := R.frz
  own := fun i c h => by
    obtain ⟨q, h1, h2, h3⟩ := R.own i c h
    have k : ∀ a, Fp H q c a → upd H p o a = H a := fun a f => upd_ne (R.ownFree h h1 f n)
    exact ⟨q, h1, h2.keep k, fun a f => h3 a ((Fp.keep k).mp f)⟩
  apart := fun i j p' q c d a h1 h2 h3 h4 ne f g => by
    have k1 : ∀ a, Fp H p' c a → upd H p o a = H a := fun a f => upd_ne (R.ownFree h1 h3 f n)
    have k2 : ∀ a, Fp H q d a → upd H p o a = H a := fun a f => upd_ne (R.ownFree h2 h4 f n)
    exact R.apart i j p' q c d a h1 h2 h3 h4 ne ((Fp.keep k1).mp f) ((Fp.keep k2).mp g)
  io := R.io
  tab := R.tab.ext (same_upd n)
/-- a new frozen object -/
theorem Rep.newF (R : Rep Z B G H σ ρ) {p : Addr} {o : HO} (n : H p = none) (t : NT o) : Rep Z B (upd G p o) (upd H p o) σ ρ := by
  have R' : Rep Z B G (upd H p o) σ ρ := R.newO n
  have ng := R.freeG n
  refine ⟨fun a u e => ?_, R'.fr, fun a h => ?_, fun a u e => upd_keep ng (R.ext a u e), fun a ps e => ?_, R.len, fun i x h => ?_, fun i c h => ?_, R'.apart, R'.io, R'.tab⟩
  · by_cases z : a = p
    · subst z; rw [upd_same] at e ⊢; exact e
    · rw [upd_ne z] at e; exact R'.sub a u e
  · by_cases z : a = p
    · subst z; exact .inr ((R.free0 n).elim (fun s => .inr s) .inl)
    · rw [upd_ne z] at h; exact R.new a h
  · by_cases z : a = p
    · subst z; rw [upd_same] at e; exact t ps (Option.some.inj e)
    · rw [upd_ne z] at e; exact R.ntb a ps e
  · obtain ⟨v, h1, h2⟩ := R.frz i x h
    exact ⟨v, h1, h2.mono (same_upd ng)⟩
  · obtain ⟨q, h1, h2, h3⟩ := R'.own i c h
    refine ⟨q, h1, h2.monoG (same_upd ng), fun a f => ?_⟩
    have f' : Fp H q c a := (Fp.keep fun a f => upd_ne (R.ownFree h h1 f n)).mp f
    rw [upd_ne (R.ownFree h h1 f' n)]
    exact h3 a f
theorem getElem?_set' {α : Type} {l : List α} {i j : Nat} {x : α} : (l.set i x)[j]? = if i = j then (if j < l.length then some x else none) else l[j]? := by
  by_cases e : i = j
  · subst e
    rw [if_pos rfl]
    by_cases h : i < l.length
    · rw [if_pos h, List.getElem?_set_self h]
    · rw [if_neg h, List.getElem?_eq_none (by simpa using h)]
  · rw [if_neg e, List.getElem?_set_ne e]
/-- an object of a slot is changed -/
theorem Rep.write (R : Rep Z B G H σ ρ) {i : Nat} {c c' : OC} {p : Addr} {vs ws : List V} (h : ρ[i]? = some (some (SV.o c))) (hp : σ[i]? = some (some (V.ref p))) (hl : H p = some (.lst vs)) (own' : OwnAt Z G (upd H p (.lst ws)) p c') : Rep Z B G (upd H p (.lst ws)) σ (ρ.set i (some (.o c'))) := by
  obtain ⟨h2, h3⟩ := R.ownP h hp
  have hi : i < ρ.length := (List.getElem?_eq_some_iff.mp h).1
  have gp : G p = none := (h3 p h2.here).1
  have ne : ∀ a u, G a = some u → a ≠ p := fun a u e z => by rw [z, gp] at e; cases e
  have other : ∀ (j : Nat) (d : OC) (q a : Addr), j ≠ i → ρ[j]? = some (some (SV.o d)) → σ[j]? = some (some (V.ref q)) → Fp H q d a → a ≠ p := fun j d q a hj e1 e2 f z => by
    subst z
    exact R.apart j i q a d c a e1 h e2 hp hj f h2.here
  refine ⟨fun a u e => by rw [upd_ne (ne a u e)]; exact R.sub a u e, fun a u e s t => ?_, R.new, R.ext, R.ntb, by rw [List.length_set]; exact R.len, fun j x e => ?_, fun j d e => ?_, fun j k q r d e a h1 h4 h5 h6 hne f g => ?_, fun x hx => ?_, tabs_but R.tab fun b u e n => ?_⟩
  · have z : a ≠ p := fun z => by
      subst z
      rcases (h3 a h2.here).2 with q | q
      · exact s q
      · exact q u e t
    rw [upd_ne z]; exact R.fr a u e s t
  · rw [getElem?_set'] at e
    split at e
    · split at e
      · cases e
      · cases e
    · exact R.frz j x e
  · rw [getElem?_set'] at e
    split at e
    · rename_i q
      subst q
      rw [if_pos hi] at e
      cases e
      exact ⟨p, hp, own', fun a f => h3 a (show Fp H p c a from f)⟩
    · rename_i q
      obtain ⟨r, h5, h6, h7⟩ := R.own j d e
      have k : ∀ a, Fp H r d a → upd H p (.lst ws) a = H a := fun a f => upd_ne (other j d r a (Ne.symm q) e h5 f)
      exact ⟨r, h5, h6.keep k, fun a f => h7 a ((Fp.keep k).mp f)⟩
  · rw [getElem?_set'] at h1 h4
    have f' : a = q := f
    have g' : a = r := g
    split at h1
    · rename_i z
      subst z
      rw [if_neg hne] at h4
      have : q = p := by rw [hp] at h5; injection h5 with h5; injection h5 with h5; injection h5 with h5; exact h5.symm
      exact other k e r a (Ne.symm hne) h4 h6 g' (f'.trans this)
    · rename_i z
      split at h4
      · rename_i z2
        subst z2
        have : r = p := by rw [hp] at h6; injection h6 with h6; injection h6 with h6; injection h6 with h6; exact h6.symm
        exact other j d q a (Ne.symm z) h1 h5 f' (g'.trans this)
      · exact R.apart j k q r d e a h1 h4 h5 h6 hne f' g'
  · obtain ⟨a1, cx, a2⟩ := R.io x hx
    refine ⟨a1, ?_⟩
    rw [getElem?_set']
    split
    · rename_i z
      rw [← z, if_pos hi]
      exact ⟨_, rfl⟩
    · exact ⟨cx, a2⟩
  · rw [upd_ne (fun z => n vs (by rw [z, hl] at e; exact (Option.some.inj e).symm))]
    exact e
/-- a slot is stored -/
theorem Rep.set (R : Rep Z B G H σ ρ) {i : Nat} {v : V} {r : SV} (hr : RD Z B G H σ ρ v r) (hio : i ∉ B.io.map (·.1)) : Rep Z B G H (σ.set i (some v)) (ρ.set i (some r)) := by
  have len : (σ.set i (some v)).length = (ρ.set i (some r)).length := by rw [List.length_set, List.length_set]; exact R.len
  refine ⟨R.sub, R.fr, R.new, R.ext, R.ntb, len, fun j x e => ?_, fun j c e => ?_, fun j k q u d e a h1 h4 h5 h6 hne f g => ?_, fun x hx => ?_, R.tab⟩
  · rw [getElem?_set'] at e ⊢
    by_cases z : i = j
    · subst z
      rw [if_pos rfl] at e ⊢
      by_cases hl : i < ρ.length
      · rw [if_pos hl] at e
        rw [if_pos (by rw [R.len]; exact hl)]
        cases e
        exact ⟨v, rfl, hr⟩
      · rw [if_neg hl] at e; cases e
    · rw [if_neg z] at e ⊢
      exact R.frz j x e
  · rw [getElem?_set'] at e ⊢
    by_cases z : i = j
    · subst z
      rw [if_pos rfl] at e ⊢
      by_cases hl : i < ρ.length
      · rw [if_pos hl] at e
        rw [if_pos (by rw [R.len]; exact hl)]
        cases e
        obtain ⟨p, rfl, h1, h2⟩ := hr
        exact ⟨p, rfl, h1, fun a f => ⟨(h2 a f).1, (h2 a f).2.1⟩⟩
      · rw [if_neg hl] at e; cases e
    · rw [if_neg z] at e ⊢
      exact R.own j c e
  · rw [getElem?_set'] at h1 h4 h5 h6
    have lt : ∀ {t : Nat} {y : Option SV}, ρ[t]? = some y → t < σ.length := fun e => by rw [R.len]; exact (List.getElem?_eq_some_iff.mp e).1
    by_cases z : i = j
    · subst z
      rw [if_pos rfl] at h1 h5
      rw [if_neg hne] at h4 h6
      by_cases hl : i < ρ.length
      · rw [if_pos hl] at h1
        rw [if_pos (by rw [R.len]; exact hl)] at h5
        cases h1
        obtain ⟨p, e1, h7, h8⟩ := hr
        injection h5 with h5; injection h5 with h5
        rw [e1] at h5; injection h5 with h5
        subst h5
        exact (h8 a f).2.2 k u e h4 h6 g
      · rw [if_neg hl] at h1; cases h1
    · rw [if_neg z] at h1 h5
      by_cases z2 : i = k
      · subst z2
        rw [if_pos rfl] at h4 h6
        by_cases hl : i < ρ.length
        · rw [if_pos hl] at h4
          rw [if_pos (by rw [R.len]; exact hl)] at h6
          cases h4
          obtain ⟨p, e1, h7, h8⟩ := hr
          injection h6 with h6; injection h6 with h6
          rw [e1] at h6; injection h6 with h6
          subst h6
          exact (h8 a g).2.2 j q d h1 h5 f
        · rw [if_neg hl] at h4; cases h4
      · rw [if_neg z2] at h4 h6
        exact R.apart j k q u d e a h1 h4 h5 h6 hne f g
  · have z : i ≠ x.1 := fun z => hio (z ▸ List.mem_map.mpr ⟨x, hx, rfl⟩)
    obtain ⟨a1, c, a2⟩ := R.io x hx
    exact ⟨by rw [getElem?_set', if_neg z]; exact a1, c, by rw [getElem?_set', if_neg z]; exact a2⟩
/-- a slot is forgotten -/
theorem Rep.forget (R : Rep Z B G H σ ρ) {i : Nat} (hio : i ∉ B.io.map (·.1)) : Rep Z B G H σ (ρ.set i none) := by
  have keep : ∀ {j : Nat} {y : SV}, (ρ.set i none)[j]? = some (some y) → ρ[j]? = some (some y) := fun {j y} e => by
    rw [getElem?_set'] at e
    split at e
    · split at e
      · cases e
      · cases e
    · exact e
  refine ⟨R.sub, R.fr, R.new, R.ext, R.ntb, by rw [List.length_set]; exact R.len, fun j x e => R.frz j x (keep e), fun j c e => R.own j c (keep e), fun j k q u d e a h1 h4 h5 h6 hne f g => R.apart j k q u d e a (keep h1) (keep h4) h5 h6 hne f g, fun x hx => ?_, R.tab⟩
  have z : i ≠ x.1 := fun z => hio (z ▸ List.mem_map.mpr ⟨x, hx, rfl⟩)
  obtain ⟨a1, c, a2⟩ := R.io x hx
  exact ⟨a1, c, by rw [getElem?_set', if_neg z]; exact a2⟩
/-- the object of this content at p becomes frozen -/
theorem own_frozen {p : Addr} {c : OC} (sub : Same G H) (h : OwnAt Z G H p c) (gn : ∀ a, Fp H p c a → G a = none) :
    ∃ G', Same G G' ∧ Same G' H ∧ (∀ a, G' a ≠ none → G a ≠ none ∨ Fp H p c a) ∧ (∀ a ps, G' a = some (.tbl ps) → G a = some (.tbl ps)) ∧ Den Z G' (.ref p) c.toD := by
  cases c with
  | lst xs =>
    obtain ⟨vs, h1, h2⟩ := h
    have n := gn p rfl
    refine ⟨upd G p (.lst vs), same_upd n, fun a u e => ?_, fun a e => ?_, fun a ps e => ?_, .lst upd_same (h2.mono (same_upd n))⟩
    · by_cases z : a = p
      · subst z; rw [upd_same] at e; rw [← e]; exact h1
      · rw [upd_ne z] at e; exact sub a u e
    · by_cases z : a = p
      · exact .inr z
      · rw [upd_ne z] at e; exact .inl e
    · by_cases z : a = p
      · subst z; rw [upd_same] at e; cases e
      · rw [upd_ne z] at e; exact e
  | dic kvs => exact h.elim
/-- G grows by what no slot owns -/
theorem Rep.growG (R : Rep Z B G H σ ρ) {G' : Hp} (e : Same G G') (s : Same G' H) (n : ∀ a, G' a ≠ none → G a ≠ none ∨ B.S a ∨ B.New a) (t : ∀ a ps, G' a = some (.tbl ps) → G a = some (.tbl ps))
    (o : ∀ (i : Nat) (c : OC) (p a : Addr), ρ[i]? = some (some (SV.o c)) → σ[i]? = some (some (V.ref p)) → Fp H p c a → G' a = none) : Rep Z B G' H σ ρ where
  sub := s
  fr := R.fr
  new := fun a h => by
    rcases n a h with q | q | q
    · exact R.new a q
    · exact .inr (.inr q)
    · exact .inr (.inl q)
  ext := fun a u h => e a u (R.ext a u h)
  ntb := fun a ps h => R.ntb a ps (t a ps h)
  len := R.len
  frz := fun i x h => let ⟨v, h1, h2⟩ := R.frz i x h; ⟨v, h1, h2.mono e⟩
  own := fun i c h => by
    obtain ⟨p, h1, h2, h3⟩ := R.own i c h
    exact ⟨p, h1, h2.monoG e, fun a f => ⟨o i c p a h h1 f, (h3 a f).2⟩⟩
  apart := R.apart
  io := R.io
  tab := R.tab
theorem RD.freeze {v : V} {r : SV} (R : Rep Z B G H σ ρ) (h : RD Z B G H σ ρ v r) : ∃ G' x, Same G G' ∧ Rep Z B G' H σ ρ ∧ Den Z G' v x ∧ x = r.toD := by
  cases r with
  | d x => exact ⟨G, x, Same.refl G, R, h, rfl⟩
  | o c =>
    obtain ⟨p, rfl, h1, h2⟩ := h
    obtain ⟨G', e1, e2, e3, e4, e5⟩ := own_frozen R.sub h1 fun a f => (h2 a f).1
    refine ⟨G', c.toD, e1, R.growG e1 e2 (fun a q => (e3 a q).imp id fun f => (h2 a f).2.1) e4 fun i d q a k1 k2 f => ?_, e5, rfl⟩
    cases z : G' a with
    | none => rfl
    | some u =>
      rcases e3 a (by rw [z]; simp) with y | y
      · exact absurd ((R.ownP k1 k2).2 a f).1 y
      · exact absurd f ((h2 a y).2.2 i q d k1 k2)
/-- a slot's object is frozen where it lies -/
theorem Rep.freeze (R : Rep Z B G H σ ρ) {i : Nat} {c : OC} (h : ρ[i]? = some (some (SV.o c))) (hio : i ∉ B.io.map (·.1)) :
    ∃ G' v, Same G G' ∧ Rep Z B G' H σ (ρ.set i (some (.d c.toD))) ∧ σ[i]? = some (some v) ∧ Den Z G' v c.toD := by
  obtain ⟨p, h1, h2, h3⟩ := R.own i c h
  have R0 := R.forget (i := i) hio
  have r : RD Z B G H σ (ρ.set i none) (.ref p) (.o c) := ⟨p, rfl, h2, fun a f => ⟨(h3 a f).1, (h3 a f).2, fun j q d k1 k2 g => by
    rw [getElem?_set'] at k1
    split at k1
    · split at k1
      · cases k1
      · cases k1
    · rename_i z
      exact R.apart i j p q c d a h k1 h1 k2 z f g⟩⟩
  obtain ⟨G', x, e1, R1, e3, e4⟩ := RD.freeze R0 r
  subst e4
  refine ⟨G', .ref p, e1, ?_, h1, e3⟩
  have R2 := R1.set (i := i) (v := .ref p) (r := .d c.toD) e3 hio
  rw [List.set_set] at R2
  have es : σ.set i (some (.ref p)) = σ := by
    apply List.ext_getElem?
    intro j
    rw [getElem?_set']
    split
    · rename_i z
      subst z
      rw [if_pos (List.getElem?_eq_some_iff.mp h1).1, h1]
    · rfl
  rw [es] at R2
  exact R2
/-- the heap grows, tables of code objects too -/
theorem Rep.ext' {H1 : Hp} (R : Rep Z B G H σ ρ) (e : LamX.ExtN H H1) (t : LamX.Tabs Z.T H1) : Rep Z B G H1 σ ρ where
  sub := fun a u h => e a u (R.sub a u h) fun ps z => R.ntb a ps (by rw [h, z])
  fr := fun a u h s n => e a u (R.fr a u h s n) n
  new := R.new
  ext := R.ext
  ntb := R.ntb
  len := R.len
  frz := R.frz
  own := fun i c h => by
    obtain ⟨p, h1, h2, h3⟩ := R.own i c h
    refine ⟨p, h1, ?_, h3⟩
    cases c with
    | lst xs =>
      obtain ⟨vs, h4, h5⟩ := h2
      exact ⟨vs, e _ _ h4 nt_lst, h5⟩
    | dic kvs => exact h2.elim
  apart := R.apart
  io := R.io
  tab := t
theorem Rep.ext0 {H1 : Hp} (R : Rep Z B G H σ ρ) (e : Same H H1) : Rep Z B G H1 σ ρ := R.ext' (LamX.ExtN.of e) (R.tab.ext e)
end
end DL
/-! DL2: what code gives, as a function of the slots; the judgements; names, constants, operators. -/
namespace DL
open PySem PySem.Spec PyProof.Rows L2

inductive Out (α : Type) where
  | ok (a : α) (ρ : Rho) | ex (x : Ex) (ρ : Rho) | bad
abbrev M (α : Type) := Rho → Out α
def Out.bind {α β : Type} (m : Out α) (k : α → Rho → Out β) : Out β := match m with
  | .ok a ρ => k a ρ
  | .ex x ρ => .ex x ρ
  | .bad => .bad
def Out.Sat {α : Type} (o : Out α) (K : α → Rho → Prop) (Kx : Ex → Rho → Prop) : Prop := match o with
  | .ok a ρ => K a ρ
  | .ex x ρ => Kx x ρ
  | .bad => False
theorem Out.sat_bind {α β : Type} {m : Out α} {k : α → Rho → Out β} {K : β → Rho → Prop} {Kx : Ex → Rho → Prop} : (m.bind k).Sat K Kx = m.Sat (fun a ρ => (k a ρ).Sat K Kx) Kx := by
  cases m <;> rfl
theorem Out.Sat.mono {α : Type} {o : Out α} {K K' : α → Rho → Prop} {Kx Kx' : Ex → Rho → Prop} (h : o.Sat K Kx) (h1 : ∀ a ρ, K a ρ → K' a ρ) (h2 : ∀ x ρ, Kx x ρ → Kx' x ρ) : o.Sat K' Kx' := by
  cases o with
  | ok a ρ => exact h1 a ρ h
  | ex x ρ => exact h2 x ρ h
  | bad => exact h
/-- a plain option in M -/
def Out.of {α : Type} (o : Option α) (ρ : Rho) : Out α := match o with
  | some a => .ok a ρ
  | none => .bad

/-- an exception as it flies -/
def ExD (Z : Zx) (G H : Hp) (cls : Value) (d : Option Addr) (x : Ex) : Prop :=
  ∃ C, Z.mg x.cls = some (.ref C) ∧ cls = .ref C ∧ match x.fld with
    | none => d = none
    | some (f, y) => ∃ a v, d = some a ∧ H a = some (.xd [(f, v)]) ∧ Den Z G v y

section
variable (Z : Zx) (io : List Nat) (W : WX)
/-- what is left to be shown, of what the code gives -/
def Kont {α β : Type} (P : Base → Hp → Hp → L2.St → Rho → β → α → Prop) (B : Base) (G : Hp) (σ : L2.St) (Q : β → Hp → Prop) (o : Out α) : Prop :=
  o.Sat (fun r ρ' => ∀ v G' H', Rep Z B G' H' σ ρ' → Same G G' → P B G' H' σ ρ' v r → Q v H')
    (fun x ρ' => ∀ cls d G' H', Rep Z B G' H' σ ρ' → Same G G' → ExD Z G' H' cls d x → W cls d σ H')
/-- the reading of code that gives f -/
def tG {α β : Type} (P : Base → Hp → Hp → L2.St → Rho → β → α → Prop) (f : M α) : L2.St → Hp → (β → Hp → Prop) → Prop := fun σ H Q =>
  ∃ B G ρ, B.io.map (·.1) = io ∧ Rep Z B G H σ ρ ∧ Kont Z W P B G σ Q (f ρ)
abbrev PV : Base → Hp → Hp → L2.St → Rho → V → D → Prop := fun _ G _ _ _ v d => Den Z G v d
abbrev PR : Base → Hp → Hp → L2.St → Rho → V → SV → Prop := fun B G H σ ρ v r => RD Z B G H σ ρ v r
abbrev PB : Base → Hp → Hp → L2.St → Rho → Bool → Bool → Prop := fun _ _ _ _ _ b c => b = c
abbrev PL : Base → Hp → Hp → L2.St → Rho → List V → List D → Prop := fun _ G _ _ _ vs ds => DenL Z G vs ds
end
section
variable {Z : Zx} {io : List Nat} {W : WX} {α β α' β' : Type} {P : Base → Hp → Hp → L2.St → Rho → β → α → Prop} {P' : Base → Hp → Hp → L2.St → Rho → β' → α' → Prop} {B : Base} {G G' H : Hp} {σ : L2.St} {ρ : Rho} {Q : β → Hp → Prop} {Q' : β' → Hp → Prop}
theorem Kont.grow {o : Out α} (h : Kont Z W P B G σ Q o) (e : Same G G') : Kont Z W P B G' σ Q o :=
  Out.Sat.mono h (fun _ _ q v G1 H1 R s p => q v G1 H1 R (e.trans s) p) fun _ _ q cls d G1 H1 R s x => q cls d G1 H1 R (e.trans s) x
theorem Kont.mono {o : Out α} {Q2 : β → Hp → Prop} (h : Kont Z W P B G σ Q o) (e : ∀ v H, Q v H → Q2 v H) : Kont Z W P B G σ Q2 o :=
  Out.Sat.mono h (fun _ _ q v G1 H1 R s p => e _ _ (q v G1 H1 R s p)) fun _ _ q => q
theorem Kont.ok {r : α} {v : β} {H' : Hp} (h : Kont Z W P B G σ Q (.ok r ρ)) (R : Rep Z B G' H' σ ρ) (s : Same G G') (p : P B G' H' σ ρ v r) : Q v H' := h v G' H' R s p
theorem tG_mono {f : M α} {Q2 : β → Hp → Prop} (h : tG Z io W P f σ H Q) (e : ∀ v H, Q v H → Q2 v H) : tG Z io W P f σ H Q2 :=
  let ⟨B, G, ρ, h1, h2, h3⟩ := h
  ⟨B, G, ρ, h1, h2, h3.mono e⟩
/-- the first part of code in two parts -/
theorem Kont.bind {f : M α} {k : α → Rho → Out α'} (h : Kont Z W P' B G σ Q' ((f ρ).bind k)) (hio : B.io.map (·.1) = io) (R : Rep Z B G H σ ρ)
    {Q : β → Hp → Prop} (q : ∀ v H1 G1 ρ1 r, Rep Z B G1 H1 σ ρ1 → Same G G1 → P B G1 H1 σ ρ1 v r → Kont Z W P' B G1 σ Q' (k r ρ1) → Q v H1) : tG Z io W P f σ H Q := by
  refine ⟨B, G, ρ, hio, R, ?_⟩
  unfold Kont at h
  rw [Out.sat_bind] at h
  exact Out.Sat.mono h (fun r ρ1 h1 v G1 H1 R1 s1 p1 => q v H1 G1 ρ1 r R1 s1 p1 (Kont.grow (show Kont Z W P' B G σ Q' (k r ρ1) from h1) s1)) fun _ _ h1 => h1
end

/-! ### growth: nothing new, or one new frozen object -/
def Grow (G H G' H' : Hp) : Prop := (G' = G ∧ H' = H) ∨ ∃ p o, H p = none ∧ NT o ∧ H' = upd H p o ∧ G' = upd G p o
theorem Rep.grow {Z : Zx} {B : Base} {G H G' H' : Hp} {σ : L2.St} {ρ : Rho} (R : Rep Z B G H σ ρ) (g : Grow G H G' H') : Rep Z B G' H' σ ρ ∧ Same G G' := by
  rcases g with ⟨rfl, rfl⟩ | ⟨p, o, n, t, rfl, rfl⟩
  · exact ⟨R, Same.refl _⟩
  · exact ⟨R.newF n t, same_upd (R.freeG n)⟩
theorem Grow.refl {G H : Hp} : Grow G H G H := .inl ⟨rfl, rfl⟩

/-! ### the judgements -/
def EV (X : Cx) (Z : Zx) (io : List Nat) (W : WX) (e : Expr) (f : M D) : Prop := PE X e (tG Z io W (PV Z) f)
def ER (X : Cx) (Z : Zx) (io : List Nat) (W : WX) (e : Expr) (f : M SV) : Prop := PE X e (tG Z io W (PR Z) f)
def ET (X : Cx) (Z : Zx) (io : List Nat) (W : WX) (e : Expr) (f : M Bool) : Prop := PT X e (tG Z io W PB f)
def EW (X : Cx) (Z : Zx) (io : List Nat) (W : WX) (e : Expr) (f : M Bool) : Prop := PW X e (tG Z io W PB f)
def EL (X : Cx) (Z : Zx) (io : List Nat) (W : WX) (es : List Expr) (f : M (List D)) : Prop := PA X es (tG Z io W (PL Z) f)

section
variable {X : Cx} {Z : Zx} {io : List Nat} {W : WX} {a b c e : Expr} {pos : Pos}
theorem PE.imp {e : Expr} {t t' : TE} (h : PE X e t) (i : ∀ σ H Q, t' σ H Q → t σ H Q) : PE X e t' := ⟨fun pins s σ H Q I q => h.run pins s σ H Q I (i σ H Q q)⟩
theorem PT.imp {e : Expr} {t t' : TT} (h : PT X e t) (i : ∀ σ H Q, t' σ H Q → t σ H Q) : PT X e t' := ⟨fun pins s σ H Q I q => h.run pins s σ H Q I (i σ H Q q)⟩
theorem PW.imp {e : Expr} {t t' : TT} (h : PW X e t) (i : ∀ σ H Q, t' σ H Q → t σ H Q) : PW X e t' := ⟨fun wh pins s σ H Q I q => h.run wh pins s σ H Q I (i σ H Q q)⟩
theorem PA.imp {e : List Expr} {t t' : TA} (h : PA X e t) (i : ∀ σ H Q, t' σ H Q → t σ H Q) : PA X e t' := ⟨fun p pins s σ H Q I q => h.run p pins s σ H Q I (i σ H Q q)⟩

/-- data, as a slot's value -/
def mD (f : M D) : M SV := fun ρ => (f ρ).bind fun d ρ1 => .ok (.d d) ρ1
/-- a slot's value frozen -/
def mF (f : M SV) : M D := fun ρ => (f ρ).bind fun r ρ1 => .ok r.toD ρ1
theorem er_ev {f : M D} (h : EV X Z io W e f) : ER X Z io W e (mD f) := PE.imp h fun σ H Q ⟨B, G, ρ, hio, R, k⟩ =>
  Kont.bind k hio R fun v H1 G1 ρ1 r R1 s1 p1 k1 => k1.ok (v := v) R1 (Same.refl _) p1
theorem ev_er {f : M SV} (h : ER X Z io W e f) : EV X Z io W e (mF f) := PE.imp h fun σ H Q ⟨B, G, ρ, hio, R, k⟩ =>
  Kont.bind k hio R fun v H1 G1 ρ1 r R1 s1 p1 k1 => by
    obtain ⟨G2, x, e1, R2, d2, ex⟩ := RD.freeze R1 p1
    exact k1.ok (v := v) R2 e1 (by show Den Z G2 v _; rw [← ex]; exact d2)

/-! ### constants and names -/
def mC (d : D) : M D := fun ρ => .ok d ρ
theorem ev_int {i : Int} {j : Nat} : EV X Z io W (.Constant (.int i) j pos) (mC (.int i)) := PE.imp pe_int fun σ H Q ⟨B, G, ρ, hio, R, k⟩ => k.ok R (Same.refl _) (.int i)
theorem ev_bl {b : Bool} {j : Nat} : EV X Z io W (.Constant (.bool b) j pos) (mC (.bl b)) := PE.imp pe_bl fun σ H Q ⟨B, G, ρ, hio, R, k⟩ => k.ok R (Same.refl _) (.bl b)
theorem ev_non {j : Nat} : EV X Z io W (.Constant .none j pos) (mC .non) := PE.imp pe_non fun σ H Q ⟨B, G, ρ, hio, R, k⟩ => k.ok R (Same.refl _) .non
theorem ev_str {x : Str} {j : Nat} : EV X Z io W (.Constant (.str x) j pos) (mC (.str x)) := PE.imp pe_str fun σ H Q ⟨B, G, ρ, hio, R, k⟩ => k.ok R (Same.refl _) (.str x)
/-- a name: data, or a slot's own object, which is frozen by that -/
def mVar (i : Nat) : M D := fun ρ => match ρ[i]? with
  | some (some (.d x)) => .ok x ρ
  | some (some (.o c)) => .ok c.toD (ρ.set i (some (.d c.toD)))
  | _ => .bad
theorem ev_var (i : Nat) {x : Str} (hN : X.N[i]? = some x := by rfl) (hv : Vis X.env.scope x := by first | exact Or.inl rfl | exact Or.inr (Or.inl rfl) | exact Or.inr (Or.inr rfl)) (hio : i ∉ io := by decide) (hd : (x == ("__debug__" : Str)) = false := by decide)
    (hcd : (x == ("__classdict__" : Str)) = false := by decide) : EV X Z io W (.Name x pos) (mVar i) := PE.imp (pe_var hN hv hd hcd) fun σ H Q ⟨B, G, ρ, hi, R, k⟩ => by
  show ∃ v, σ[i]? = some (some v) ∧ Q v H
  unfold mVar at k
  split at k
  · rename_i x e
    obtain ⟨v, h1, h2⟩ := R.frz i x e
    exact ⟨v, h1, k.ok R (Same.refl _) h2⟩
  · rename_i c e
    obtain ⟨G', v, s, R', h1, h2⟩ := R.freeze e (by rw [hi]; exact hio)
    exact ⟨v, h1, k.ok R' s h2⟩
  · exact k.elim
/-- a name moved out of its slot -/
def mMove (i : Nat) : M SV := fun ρ => match ρ[i]? with
  | some (some r) => .ok r (ρ.set i none)
  | _ => .bad
theorem Rep.move {B : Base} {G H : Hp} {σ : L2.St} {ρ : Rho} {i : Nat} {r : SV} (R : Rep Z B G H σ ρ) (h : ρ[i]? = some (some r)) (hio : i ∉ B.io.map (·.1)) : ∃ v, σ[i]? = some (some v) ∧ Rep Z B G H σ (ρ.set i none) ∧ RD Z B G H σ (ρ.set i none) v r := by
  cases r with
  | d x =>
    obtain ⟨v, h1, h2⟩ := R.frz i x h
    exact ⟨v, h1, R.forget hio, h2⟩
  | o c =>
    obtain ⟨p, h1, h2, h3⟩ := R.own i c h
    refine ⟨_, h1, R.forget hio, p, rfl, h2, fun a f => ⟨(h3 a f).1, (h3 a f).2, fun j q d k1 k2 g => ?_⟩⟩
    rw [getElem?_set'] at k1
    split at k1
    · split at k1
      · cases k1
      · cases k1
    · rename_i z
      exact R.apart i j p q c d a h k1 h1 k2 z f g
theorem er_move (i : Nat) {x : Str} (hN : X.N[i]? = some x := by rfl) (hv : Vis X.env.scope x := by first | exact Or.inl rfl | exact Or.inr (Or.inl rfl) | exact Or.inr (Or.inr rfl)) (hio : i ∉ io := by decide) (hd : (x == ("__debug__" : Str)) = false := by decide)
    (hcd : (x == ("__classdict__" : Str)) = false := by decide) : ER X Z io W (.Name x pos) (mMove i) := PE.imp (pe_var hN hv hd hcd) fun σ H Q ⟨B, G, ρ, hi, R, k⟩ => by
  show ∃ v, σ[i]? = some (some v) ∧ Q v H
  unfold mMove at k
  split at k
  · rename_i r e
    obtain ⟨v, h1, h2, h3⟩ := R.move e (by rw [hi]; exact hio)
    exact ⟨v, h1, k.ok h2 (Same.refl _) h3⟩
  · exact k.elim
/-- a module's own constant that is a text or a number -/
theorem ev_gInt {x : Str} {i : Int} (hg : Gl X x) (hm : ∃ t, X.mg x = some (.int i t)) (hd : (x == ("__debug__" : Str)) = false := by decide) : EV X Z io W (.Name x pos) (mC (.int i)) := by
  obtain ⟨t, hm⟩ := hm
  exact PE.imp (pe_glob (v := .int i) hg hm ⟨t, rfl⟩ hd) fun σ H Q ⟨B, G, ρ, hio, R, k⟩ => k.ok R (Same.refl _) (.int i)
theorem ev_gStr {x y : Str} (hg : Gl X x) (hm : ∃ t, X.mg x = some (.str y t)) (hd : (x == ("__debug__" : Str)) = false := by decide) : EV X Z io W (.Name x pos) (mC (.str y)) := by
  obtain ⟨t, hm⟩ := hm
  exact PE.imp (pe_glob (v := .str y) hg hm ⟨t, rfl⟩ hd) fun σ H Q ⟨B, G, ρ, hio, R, k⟩ => k.ok R (Same.refl _) (.str y)

/-! ### operators -/
/-- a two-place operation on data: its value is data, perhaps one new object -/
def BinD (X : Cx) (Z : Zx) (f : Value → Value → Sem Value) (g : D → D → Option D) : Prop :=
  ∃ r : R2, OpR X f r ∧ ∀ G H x y d e c Q, Same G H → Den Z G x d → Den Z G y e → g d e = some c → (∀ v G' H', Grow G H G' H' → Den Z G' v c → Q v H') → r x y H Q
/-- .. that gives a truth -/
def BinB (X : Cx) (Z : Zx) (f : Value → Value → Sem Value) (g : D → D → Option Bool) : Prop :=
  ∃ r : R2, OpR X f r ∧ ∀ G H x y d e c Q, Same G H → Den Z G x d → Den Z G y e → g d e = some c → Q (.bl c) H → r x y H Q
def mBin (g : D → D → Option D) (fa fb : M D) : M D := fun ρ => (fa ρ).bind fun d ρ1 => (fb ρ1).bind fun e ρ2 => .of (g d e) ρ2
def mBinB (g : D → D → Option Bool) (fa fb : M D) : M Bool := fun ρ => (fa ρ).bind fun d ρ1 => (fb ρ1).bind fun e ρ2 => .of (g d e) ρ2
def mB (f : M Bool) : M D := fun ρ => (f ρ).bind fun b ρ1 => .ok (.bl b) ρ1
def mT (f : M D) : M Bool := fun ρ => (f ρ).bind fun d ρ1 => match d with
  | .bl b => .ok b ρ1
  | _ => .bad
variable {fa fb fc : M D}
theorem ev_bin {op : Operator} {g : D → D → Option D} (ho : BinD X Z (binaryOp op) g) (ha : EV X Z io W a fa) (hb : EV X Z io W b fb) : EV X Z io W (.BinOp a op b pos) (mBin g fa fb) := by
  obtain ⟨r, h1, h2⟩ := ho
  refine PE.imp (pe_op h1 ha hb) fun σ H Q ⟨B, G, ρ, hio, R, k⟩ => ?_
  refine Kont.bind k hio R fun x H1 G1 ρ1 d R1 s1 p1 k1 => ?_
  refine Kont.bind k1 hio R1 fun y H2 G2 ρ2 e R2 s2 p2 k2 => ?_
  unfold Out.of at k2
  split at k2
  · rename_i c hc
    refine h2 G2 H2 x y d e c Q R2.sub (p1.mono s2) p2 hc fun v G3 H3 g3 d3 => ?_
    obtain ⟨R3, s3⟩ := R2.grow g3
    exact k2.ok R3 s3 d3
  · exact k2.elim
theorem cmp_core {op : CmpOp} {g : D → D → Option Bool} {Q : VK} {r : R2} (h2 : ∀ G H x y d e c Q, Same G H → Den Z G x d → Den Z G y e → g d e = some c → Q (.bl c) H → r x y H Q) {σ : L2.St} {H : Hp} {β : Type} {Q' : Bool → Hp → Prop} {B : Base} {G : Hp} {ρ : Rho}
    (hio : B.io.map (·.1) = io) (R : Rep Z B G H σ ρ) (k : Kont Z W PB B G σ Q' (mBinB g fa fb ρ)) (q : ∀ c H, Q' c H → Q (.bl c) H) : tOp r (tG Z io W (PV Z) fa) (tG Z io W (PV Z) fb) σ H Q := by
  refine Kont.bind k hio R fun x H1 G1 ρ1 d R1 s1 p1 k1 => ?_
  refine Kont.bind k1 hio R1 fun y H2 G2 ρ2 e R2 s2 p2 k2 => ?_
  unfold Out.of at k2
  split at k2
  · rename_i c hc
    exact h2 G2 H2 x y d e c Q R2.sub (p1.mono s2) p2 hc (q c H2 (k2.ok R2 (Same.refl _) rfl))
  · exact k2.elim
theorem ev_cmp {op : CmpOp} {g : D → D → Option Bool} (ho : BinB X Z (compareOp op) g) (ha : EV X Z io W a fa) (hb : EV X Z io W b fb) (hm : behindInMarks op b = false := by first | exact nomark _ | rfl) : EV X Z io W (.Compare a [op] [b] pos) (mB (mBinB g fa fb)) := by
  obtain ⟨r, h1, h2⟩ := ho
  refine PE.imp (pe_cmpR h1 ha hb hm) fun σ H Q ⟨B, G, ρ, hio, R, k⟩ => ?_
  have k' : Kont Z W PB B G σ (fun c H => Q (.bl c) H) (mBinB g fa fb ρ) := by
    unfold mB Kont at k
    rw [Out.sat_bind] at k
    exact Out.Sat.mono k (fun c ρ1 h v G' H' R' s p => h (.bl c) G' H' R' s (.bl c) |> fun z => by cases p; exact z) fun _ _ h => h
  exact cmp_core (op := op) (β := Unit) h2 hio R k' fun c H q => q
theorem et_cmp {op : CmpOp} {g : D → D → Option Bool} (ho : BinB X Z (compareOp op) g) (ha : EV X Z io W a fa) (hb : EV X Z io W b fb) (hm : behindInMarks op b = false := by first | exact nomark _ | rfl) : ET X Z io W (.Compare a [op] [b] pos) (mBinB g fa fb) := by
  obtain ⟨r, h1, h2⟩ := ho
  refine PT.imp (pt_cmpR h1 ha hb hm) fun σ H Q ⟨B, G, ρ, hio, R, k⟩ => ?_
  exact cmp_core (op := op) (β := Unit) h2 hio R k fun c H q => ⟨c, rfl, q⟩
/-- a < b < c -/
def mChain (g g' : D → D → Option Bool) (fa fb fc : M D) : M Bool := fun ρ => (fa ρ).bind fun d ρ1 => (fb ρ1).bind fun e ρ2 => (Out.of (g d e) ρ2).bind fun k ρ2 => if k = true then (fc ρ2).bind fun h ρ3 => .of (g' e h) ρ3 else .ok false ρ2
theorem chain_core {g g' : D → D → Option Bool} {Q : VK} {r r' : R2} (h2 : ∀ G H x y d e c Q, Same G H → Den Z G x d → Den Z G y e → g d e = some c → Q (.bl c) H → r x y H Q) (h4 : ∀ G H x y d e c Q, Same G H → Den Z G x d → Den Z G y e → g' d e = some c → Q (.bl c) H → r' x y H Q)
    {σ : L2.St} {H : Hp} {Q' : Bool → Hp → Prop} {B : Base} {G : Hp} {ρ : Rho}
    (hio : B.io.map (·.1) = io) (R : Rep Z B G H σ ρ) (k : Kont Z W PB B G σ Q' (mChain g g' fa fb fc ρ)) (q : ∀ c H, Q' c H → Q (.bl c) H) : tChain r r' (tG Z io W (PV Z) fa) (tG Z io W (PV Z) fb) (tG Z io W (PV Z) fc) σ H Q := by
  refine Kont.bind k hio R fun x H1 G1 ρ1 d R1 s1 p1 k1 => ?_
  refine Kont.bind k1 hio R1 fun y H2 G2 ρ2 e R2 s2 p2 k2 => ?_
  unfold Out.of at k2
  split at k2
  · rename_i c hc
    refine h2 G2 H2 x y d e c _ R2.sub (p1.mono s2) p2 hc ⟨c, rfl, ?_⟩
    simp only [Out.bind] at k2
    cases c with
    | false =>
      rw [if_neg Bool.false_ne_true] at k2 ⊢
      exact q _ _ (k2.ok R2 (Same.refl _) rfl)
    | true =>
      rw [if_pos rfl] at k2 ⊢
      refine Kont.bind k2 hio R2 fun z H3 G3 ρ3 h R3 s3 p3 k3 => ?_
      unfold Out.of at k3
      split at k3
      · rename_i c' hc'
        exact h4 G3 H3 y z e h c' Q R3.sub (p2.mono s3) p3 hc' (q c' H3 (k3.ok R3 (Same.refl _) rfl))
      · exact k3.elim
  · exact k2.elim
theorem ev_chain {op op' : CmpOp} {g g' : D → D → Option Bool} (ho : BinB X Z (compareOp op) g) (ho' : BinB X Z (compareOp op') g') (ha : EV X Z io W a fa) (hb : EV X Z io W b fb) (hc : EV X Z io W c fc) (hm : lastMarks [op, op'] [b, c] = false := by with_unfolding_all rfl) :
    EV X Z io W (.Compare a [op, op'] [b, c] pos) (mB (mChain g g' fa fb fc)) := by
  obtain ⟨r, h1, h2⟩ := ho
  obtain ⟨r', h3, h4⟩ := ho'
  refine PE.imp (pe_chain h1 h3 ha hb hc hm) fun σ H Q ⟨B, G, ρ, hio, R, k⟩ => ?_
  have k' : Kont Z W PB B G σ (fun c H => Q (.bl c) H) (mChain g g' fa fb fc ρ) := by
    unfold mB Kont at k
    rw [Out.sat_bind] at k
    exact Out.Sat.mono k (fun c ρ1 h v G' H' R' s p => h (.bl c) G' H' R' s (.bl c) |> fun z => by cases p; exact z) fun _ _ h => h
  exact chain_core h2 h4 hio R k' fun c H q => q
theorem et_chain {op op' : CmpOp} {g g' : D → D → Option Bool} (ho : BinB X Z (compareOp op) g) (ho' : BinB X Z (compareOp op') g') (ha : EV X Z io W a fa) (hb : EV X Z io W b fb) (hc : EV X Z io W c fc) (hm : lastMarks [op, op'] [b, c] = false := by with_unfolding_all rfl) :
    ET X Z io W (.Compare a [op, op'] [b, c] pos) (mChain g g' fa fb fc) := by
  obtain ⟨r, h1, h2⟩ := ho
  obtain ⟨r', h3, h4⟩ := ho'
  refine PT.imp (pt_chain h1 h3 ha hb hc hm) fun σ H Q ⟨B, G, ρ, hio, R, k⟩ => ?_
  exact chain_core h2 h4 hio R k fun c H q => ⟨c, rfl, q⟩

/-! ### tests, and, or, not -/
variable {ta tb : M Bool} {rest : List Expr}
theorem et_val (h : EV X Z io W e fa) (he : ∀ whole, isTrue e X.env whole = (do let v ← whole; standAt e.pos; holding [v] (truthy v)) := by intro _; rfl) : ET X Z io W e (mT fa) := by
  refine PT.imp (pt_val h he) fun σ H Q ⟨B, G, ρ, hio, R, k⟩ => ?_
  refine Kont.bind k hio R fun v H1 G1 ρ1 d R1 s1 p1 k1 => ?_
  cases d with
  | bl b =>
    cases p1
    exact ⟨b, rfl, k1.ok R1 (Same.refl _) rfl⟩
  | _ => exact k1.elim
theorem et_ew (h : EW X Z io W e ta) : ET X Z io W e ta := PW.pt h
def mAnd (ta tb : M Bool) : M Bool := fun ρ => (ta ρ).bind fun b ρ1 => if b = true then tb ρ1 else .ok false ρ1
def mOr (ta tb : M Bool) : M Bool := fun ρ => (ta ρ).bind fun b ρ1 => if b = true then .ok true ρ1 else tb ρ1
def mNot (ta : M Bool) : M Bool := fun ρ => (ta ρ).bind fun b ρ1 => .ok (!b) ρ1
theorem ew_and1 (ha : ET X Z io W a ta) : EW X Z io W (.BoolOp .And [a] pos) ta := pw_and1 ha
theorem ew_or1 (ha : ET X Z io W a ta) : EW X Z io W (.BoolOp .Or [a] pos) ta := pw_or1 ha
theorem ew_and (ha : ET X Z io W a ta) (hb : EW X Z io W (.BoolOp .And (b :: rest) pos) tb) : EW X Z io W (.BoolOp .And (a :: b :: rest) pos) (mAnd ta tb) := by
  refine PW.imp (pw_and ha hb) fun σ H Q ⟨B, G, ρ, hio, R, k⟩ => ?_
  refine Kont.bind k hio R fun v H1 G1 ρ1 d R1 s1 p1 k1 => ?_
  cases p1
  split
  · rename_i z
    rw [if_pos z] at k1
    exact ⟨B, G1, ρ1, hio, R1, k1⟩
  · rename_i z
    rw [if_neg z] at k1
    exact k1.ok R1 (Same.refl _) rfl
theorem ew_or (ha : ET X Z io W a ta) (hb : EW X Z io W (.BoolOp .Or (b :: rest) pos) tb) : EW X Z io W (.BoolOp .Or (a :: b :: rest) pos) (mOr ta tb) := by
  refine PW.imp (pw_or ha hb) fun σ H Q ⟨B, G, ρ, hio, R, k⟩ => ?_
  refine Kont.bind k hio R fun v H1 G1 ρ1 d R1 s1 p1 k1 => ?_
  cases p1
  split
  · rename_i z
    rw [if_pos z] at k1
    exact k1.ok R1 (Same.refl _) rfl
  · rename_i z
    rw [if_neg z] at k1
    exact ⟨B, G1, ρ1, hio, R1, k1⟩
theorem et_not (ha : ET X Z io W a ta) : ET X Z io W (.UnaryOp .Not a pos) (mNot ta) := by
  refine PT.imp (pt_not ha) fun σ H Q ⟨B, G, ρ, hio, R, k⟩ => ?_
  refine Kont.bind k hio R fun v H1 G1 ρ1 d R1 s1 p1 k1 => ?_
  cases p1
  exact k1.ok R1 (Same.refl _) rfl
/-- .. as values -/
theorem ev_one {op : BoolOp} (h : EV X Z io W a fa) : EV X Z io W (.BoolOp op [a] pos) fa := pe_one h
def mAndV (fa fb : M D) : M D := fun ρ => (fa ρ).bind fun d ρ1 => match d with
  | .bl true => fb ρ1
  | .bl false => .ok (.bl false) ρ1
  | _ => .bad
def mOrV (fa fb : M D) : M D := fun ρ => (fa ρ).bind fun d ρ1 => match d with
  | .bl true => .ok (.bl true) ρ1
  | .bl false => fb ρ1
  | _ => .bad
def mNotV (fa : M D) : M D := fun ρ => (fa ρ).bind fun d ρ1 => match d with
  | .bl b => .ok (.bl (!b)) ρ1
  | _ => .bad
theorem ev_and (ha : EV X Z io W a fa) (hb : EV X Z io W (.BoolOp .And (b :: rest) pos) fb) : EV X Z io W (.BoolOp .And (a :: b :: rest) pos) (mAndV fa fb) := by
  refine PE.imp (pe_and ha hb) fun σ H Q ⟨B, G, ρ, hio, R, k⟩ => ?_
  refine Kont.bind k hio R fun v H1 G1 ρ1 d R1 s1 p1 k1 => ?_
  cases d with
  | bl b =>
    cases p1
    refine ⟨b, rfl, ?_⟩
    cases b with
    | true => rw [if_pos rfl]; exact ⟨B, G1, ρ1, hio, R1, k1⟩
    | false => rw [if_neg Bool.false_ne_true]; exact k1.ok R1 (Same.refl _) (.bl false)
  | _ => exact k1.elim
theorem ev_or (ha : EV X Z io W a fa) (hb : EV X Z io W (.BoolOp .Or (b :: rest) pos) fb) : EV X Z io W (.BoolOp .Or (a :: b :: rest) pos) (mOrV fa fb) := by
  refine PE.imp (pe_or ha hb) fun σ H Q ⟨B, G, ρ, hio, R, k⟩ => ?_
  refine Kont.bind k hio R fun v H1 G1 ρ1 d R1 s1 p1 k1 => ?_
  cases d with
  | bl b =>
    cases p1
    refine ⟨b, rfl, ?_⟩
    cases b with
    | false => rw [if_neg Bool.false_ne_true]; exact ⟨B, G1, ρ1, hio, R1, k1⟩
    | true => rw [if_pos rfl]; exact k1.ok R1 (Same.refl _) (.bl true)
  | _ => exact k1.elim
theorem ev_not (ha : EV X Z io W a fa) : EV X Z io W (.UnaryOp .Not a pos) (mNotV fa) := by
  refine PE.imp (pe_not ha) fun σ H Q ⟨B, G, ρ, hio, R, k⟩ => ?_
  refine Kont.bind k hio R fun v H1 G1 ρ1 d R1 s1 p1 k1 => ?_
  cases d with
  | bl b =>
    cases p1
    exact ⟨b, rfl, k1.ok R1 (Same.refl _) (.bl _)⟩
  | _ => exact k1.elim
/-- a if t else b -/
def mIf {α : Type} (t : M Bool) (f g : M α) : M α := fun ρ => (t ρ).bind fun b ρ1 => if b = true then f ρ1 else g ρ1
theorem ev_if (hc : ET X Z io W c ta) (ha : EV X Z io W a fa) (hb : EV X Z io W b fb) : EV X Z io W (.IfExp c a b pos) (mIf ta fa fb) := by
  refine PE.imp (pe_ifExp hc ha hb) fun σ H Q ⟨B, G, ρ, hio, R, k⟩ => ?_
  refine Kont.bind k hio R fun v H1 G1 ρ1 d R1 s1 p1 k1 => ?_
  cases p1
  split
  · rename_i z
    rw [if_pos z] at k1
    exact ⟨B, G1, ρ1, hio, R1, k1⟩
  · rename_i z
    rw [if_neg z] at k1
    exact ⟨B, G1, ρ1, hio, R1, k1⟩
theorem er_if {ra rb : M SV} (hc : ET X Z io W c ta) (ha : ER X Z io W a ra) (hb : ER X Z io W b rb) : ER X Z io W (.IfExp c a b pos) (mIf ta ra rb) := by
  refine PE.imp (pe_ifExp hc ha hb) fun σ H Q ⟨B, G, ρ, hio, R, k⟩ => ?_
  refine Kont.bind k hio R fun v H1 G1 ρ1 d R1 s1 p1 k1 => ?_
  cases p1
  split
  · rename_i z
    rw [if_pos z] at k1
    exact ⟨B, G1, ρ1, hio, R1, k1⟩
  · rename_i z
    rw [if_neg z] at k1
    exact ⟨B, G1, ρ1, hio, R1, k1⟩

/-! ### lists of expressions, displays -/
def mNil : M (List D) := fun ρ => .ok [] ρ
def mCons (f : M D) (r : M (List D)) : M (List D) := fun ρ => (f ρ).bind fun d ρ1 => (r ρ1).bind fun ds ρ2 => .ok (d :: ds) ρ2
theorem el_nil : EL X Z io W [] mNil := PA.imp pa_nil fun σ H Q ⟨B, G, ρ, hio, R, k⟩ => k.ok R (Same.refl _) DenL.nil
theorem el_cons {es : List Expr} {fs : M (List D)} (ha : EV X Z io W e fa) (hr : EL X Z io W es fs) (hs : starEach (e :: es) X.env = (false, eval e X.env) :: starEach es X.env := by rfl) : EL X Z io W (e :: es) (mCons fa fs) := by
  refine PA.imp (pa_cons ha hr hs) fun σ H Q ⟨B, G, ρ, hio, R, k⟩ => ?_
  refine Kont.bind k hio R fun v H1 G1 ρ1 d R1 s1 p1 k1 => ?_
  refine Kont.bind k1 hio R1 fun vs H2 G2 ρ2 ds R2 s2 p2 k2 => ?_
  exact k2.ok (v := v :: vs) R2 (Same.refl _) (DenL.cons (Den.mono s2 p1) p2)
def mTup (fs : M (List D)) : M D := fun ρ => (fs ρ).bind fun ds ρ1 => if ds.length ≤ sizeLine then .ok (.tup ds) ρ1 else .bad
theorem ev_tup {es : List Expr} {fs : M (List D)} {k0 : Nat} (h : EL X Z io W es fs) : EV X Z io W (.Tuple es k0 pos) (mTup fs) := by
  refine PE.imp (pe_tup h) fun σ H Q ⟨B, G, ρ, hio, R, k⟩ => ?_
  refine Kont.bind k hio R fun vs H1 G1 ρ1 ds R1 s1 p1 k1 => ?_
  split at k1
  · rename_i z
    refine ⟨by rw [DenL.length p1]; exact z, fun p n => ?_⟩
    have R2 := R1.newF (o := .tup vs) n nt_tup
    have s2 : Same G1 (upd G1 p (.tup vs)) := same_upd (R1.freeG n)
    exact k1.ok R2 s2 (.tup (SqT.of upd_same) (DenL.mono s2 p1))
  · exact k1.elim
def mLst (fs : M (List D)) : M SV := fun ρ => (fs ρ).bind fun ds ρ1 => if ds.length ≤ sizeLine then .ok (.o (.lst ds)) ρ1 else .bad
/-- a new list at p, of no slot -/
theorem RD.new {B : Base} {G H : Hp} {σ : L2.St} {ρ : Rho} (R : Rep Z B G H σ ρ) {p : Addr} {vs : List V} {ds : List D} (n : H p = none) (h : DenL Z G vs ds) : Rep Z B G (upd H p (.lst vs)) σ ρ ∧ RD Z B G (upd H p (.lst vs)) σ ρ (.ref p) (.o (.lst ds)) := by
  refine ⟨R.newO n, p, rfl, ⟨vs, upd_same, h⟩, fun a f => ?_⟩
  have f' : a = p := f
  subst f'
  refine ⟨R.freeG n, R.free0 n, fun i q d h1 h2 g => ?_⟩
  have g' : Fp H q d a := g
  exact R.ownFree h1 h2 g' n rfl
theorem er_lst {es : List Expr} {fs : M (List D)} (h : EL X Z io W es fs) : ER X Z io W (.List es pos) (mLst fs) := by
  refine PE.imp (pe_lst h) fun σ H Q ⟨B, G, ρ, hio, R, k⟩ => ?_
  refine Kont.bind k hio R fun vs H1 G1 ρ1 ds R1 s1 p1 k1 => ?_
  split at k1
  · rename_i z
    refine ⟨by rw [DenL.length p1]; exact z, fun p n => ?_⟩
    obtain ⟨R2, r2⟩ := RD.new R1 n p1
    exact k1.ok R2 (Same.refl _) r2
  · exact k1.elim
end
end DL
/-! DL3: operations on data: numbers, texts, tuples, lists; what built-ins give. -/
namespace DL
open PySem PySem.Spec PyProof.Rows L2

/-- built-in names that the module does not hide -/
structure Nb (mg : Str → Option Value) : Prop where
  len : mg "len" = none
  max : mg "max" = none
  min : mg "min" = none
  abs : mg "abs" = none
  int : mg "int" = none
  str : mg "str" = none
  tuple : mg "tuple" = none
  list : mg "list" = none
  sorted : mg "sorted" = none
  sum : mg "sum" = none
  range : mg "range" = none
  all : mg "all" = none
  any : mg "any" = none
  isinstance : mg "isinstance" = none
  enumerate : mg "enumerate" = none
  zip : mg "zip" = none
  bool : mg "bool" = none
  dict : mg "dict" = none
  set : mg "set" = none
  val : mg "ValueError" = none

section
variable {X : Cx} {Z : Zx} {io : List Nat} {W : WX} {G H : Hp}

/-! ### lists of one kind of data -/
def ints? : List D → Option (List Int)
  | [] => some []
  | .int i :: r => (ints? r).map (i :: ·)
  | _ => none
theorem vals_ints? : ∀ {vs : List V} {ds : List D} {ns : List Int}, DenL Z G vs ds → ints? ds = some ns → vs = ns.map V.int
  | _, _, ns, .nil, e => by cases e; rfl
  | _, _, ns, .cons (.int i) t, e => by
    simp only [ints?, Option.map_eq_some_iff] at e
    obtain ⟨r, h1, rfl⟩ := e
    rw [vals_ints? t h1]; rfl
  | _, _, ns, .cons .non t, e => by cases e
  | _, _, ns, .cons (.bl _) t, e => by cases e
  | _, _, ns, .cons (.str _) t, e => by cases e
  | _, _, ns, .cons (.tup _ _) t, e => by cases e
  | _, _, ns, .cons (.lst _ _) t, e => by cases e
  | _, _, ns, .cons (.scr _ _) t, e => by cases e
  | _, _, ns, .cons (.fn _) t, e => by cases e
theorem ints?_map (ns : List Int) : ints? (ns.map D.int) = some ns := by
  induction ns with
  | nil => rfl
  | cons i r ih => simp only [List.map_cons, ints?, ih, Option.map_some]
def bls? : List D → Option (List Bool)
  | [] => some []
  | .bl i :: r => (bls? r).map (i :: ·)
  | _ => none
theorem vals_bls? : ∀ {vs : List V} {ds : List D} {ns : List Bool}, DenL Z G vs ds → bls? ds = some ns → vs = ns.map V.bl
  | _, _, ns, .nil, e => by cases e; rfl
  | _, _, ns, .cons (.bl i) t, e => by
    simp only [bls?, Option.map_eq_some_iff] at e
    obtain ⟨r, h1, rfl⟩ := e
    rw [vals_bls? t h1]; rfl
  | _, _, ns, .cons .non t, e => by cases e
  | _, _, ns, .cons (.int _) t, e => by cases e
  | _, _, ns, .cons (.str _) t, e => by cases e
  | _, _, ns, .cons (.tup _ _) t, e => by cases e
  | _, _, ns, .cons (.lst _ _) t, e => by cases e
  | _, _, ns, .cons (.scr _ _) t, e => by cases e
  | _, _, ns, .cons (.fn _) t, e => by cases e
theorem bls?_map (ns : List Bool) : bls? (ns.map D.bl) = some ns := by
  induction ns with
  | nil => rfl
  | cons i r ih => simp only [List.map_cons, bls?, ih, Option.map_some]
def strs? : List D → Option (List Str)
  | [] => some []
  | .str i :: r => (strs? r).map (i :: ·)
  | _ => none
theorem vals_strs? : ∀ {vs : List V} {ds : List D} {ns : List Str}, DenL Z G vs ds → strs? ds = some ns → vs = ns.map V.str
  | _, _, ns, .nil, e => by cases e; rfl
  | _, _, ns, .cons (.str i) t, e => by
    simp only [strs?, Option.map_eq_some_iff] at e
    obtain ⟨r, h1, rfl⟩ := e
    rw [vals_strs? t h1]; rfl
  | _, _, ns, .cons .non t, e => by cases e
  | _, _, ns, .cons (.bl _) t, e => by cases e
  | _, _, ns, .cons (.int _) t, e => by cases e
  | _, _, ns, .cons (.tup _ _) t, e => by cases e
  | _, _, ns, .cons (.lst _ _) t, e => by cases e
  | _, _, ns, .cons (.scr _ _) t, e => by cases e
  | _, _, ns, .cons (.fn _) t, e => by cases e
theorem strs?_map (ns : List Str) : strs? (ns.map D.str) = some ns := by
  induction ns with
  | nil => rfl
  | cons i r ih => simp only [List.map_cons, strs?, ih, Option.map_some]

/-! ### numbers -/
def gI (C : Int → Int → Bool) (f : Int → Int → Int) : D → D → Option D
  | .int i, .int j => if C i j then some (.int (f i j)) else none
  | _, _ => none
theorem bin_int {op : Value → Value → Sem Value} {C : Int → Int → Prop} {C' : Int → Int → Bool} {f : Int → Int → Int} (h : OpR X op (rI C fun i j => .int (f i j))) (hc : ∀ i j, C' i j = true → C i j) : BinD X Z op (gI C' f) := by
  refine ⟨_, h, fun G H x y d e c Q s hx hy hg q => ?_⟩
  cases hx <;> cases hy <;> simp only [gI] at hg <;> try (cases hg; done)
  split at hg
  · rename_i z
    cases hg
    exact ⟨_, _, rfl, rfl, hc _ _ z, q _ G H Grow.refl (.int _)⟩
  · cases hg
theorem bin_int0 {op : Value → Value → Sem Value} {f : Int → Int → Int} (h : OpR X op (rI0 fun i j => .int (f i j))) : BinD X Z op (gI (fun _ _ => true) f) := by
  refine ⟨_, h, fun G H x y d e c Q s hx hy hg q => ?_⟩
  cases hx <;> cases hy <;> simp only [gI] at hg <;> try (cases hg; done)
  cases hg
  exact ⟨_, _, rfl, rfl, q _ G H Grow.refl (.int _)⟩
abbrev gSub : D → D → Option D := gI (fun _ _ => true) (· - ·)
theorem b_sub : BinD X Z (binaryOp .Sub) gSub := bin_int0 op_sub
/-- * of two factors of together less than a million bits -/
abbrev gMul : D → D → Option D := gI (fun i j => decide (i.natAbs.log2 + j.natAbs.log2 < 1000000)) (· * ·)
theorem b_mul : BinD X Z (binaryOp .Mult) gMul := bin_int op_mulW fun i j h => of_decide_eq_true (p := i.natAbs.log2 + j.natAbs.log2 < 1000000) h
abbrev gDiv : D → D → Option D := gI (fun _ j => decide (0 < j ∧ j.natAbs.log2 < 9000)) (· / ·)
theorem b_div : BinD X Z (binaryOp .FloorDiv) gDiv := bin_int op_fdivW fun i j h => of_decide_eq_true (p := 0 < j ∧ j.natAbs.log2 < 9000) h
abbrev gMod : D → D → Option D := gI (fun _ j => decide (0 < j)) (· % ·)
theorem b_mod : BinD X Z (binaryOp .Mod) gMod := bin_int op_mod fun i j h => of_decide_eq_true (p := 0 < j) h
abbrev gPow : D → D → Option D := gI (fun i j => decide (0 ≤ j ∧ j ≤ 1000000 ∧ i.natAbs < 2 ^ 64)) (fun i j => i ^ j.toNat)
theorem b_pow : BinD X Z (binaryOp .Pow) gPow := bin_int op_pow fun i j h => of_decide_eq_true (p := 0 ≤ j ∧ j ≤ 1000000 ∧ i.natAbs < 2 ^ 64) h
/-- + : numbers, texts, tuples, lists (a new one, frozen) -/
def gAdd : D → D → Option D
  | .int i, .int j => some (.int (i + j))
  | .str x, .str y => if x.length + y.length ≤ sizeLine then some (.str (x ++ y)) else none
  | .tup xs, .tup ys => if xs.length + ys.length ≤ sizeLine then some (.tup (xs ++ ys)) else none
  | .lst xs, .lst ys => if xs.length + ys.length ≤ sizeLine then some (.lst (xs ++ ys)) else none
  | _, _ => none
theorem grow_tup {G H : Hp} {p : Addr} {vs : List V} (n : H p = none) : Grow G H (upd G p (.tup vs)) (upd H p (.tup vs)) := .inr ⟨p, _, n, nt_tup, rfl, rfl⟩
theorem grow_lst {G H : Hp} {p : Addr} {vs : List V} (n : H p = none) : Grow G H (upd G p (.lst vs)) (upd H p (.lst vs)) := .inr ⟨p, _, n, nt_lst, rfl, rfl⟩
theorem free_sub {G H : Hp} (s : Same G H) {p : Addr} (n : H p = none) : G p = none := by
  cases e : G p with
  | none => rfl
  | some o => have := s p o e; rw [n] at this; cases this
theorem DenL.nil_iff {vs : List V} {ds : List D} (h : DenL Z G vs ds) : vs = [] ↔ ds = [] := by
  cases h <;> simp
theorem b_add (hK : X.K = Z.K := by rfl) : BinD X Z (binaryOp .Add) gAdd := by
  refine ⟨_, op_add.or (op_add_str.or (op_catA.or op_cat)), fun G H x y d e c Q s hx hy hg q => ?_⟩
  cases hx <;> cases hy <;> simp only [gAdd] at hg <;> try (cases hg; done)
  · cases hg
    exact .inl ⟨_, _, rfl, rfl, q _ G H Grow.refl (.int _)⟩
  · split at hg
    · rename_i z
      cases hg
      exact .inr (.inl ⟨_, _, rfl, rfl, z, q _ G H Grow.refl (.str _)⟩)
    · cases hg
  · rename_i a vs ds h1 h2 b ws es h3 h4
    split at hg
    · rename_i z
      cases hg
      refine .inr (.inr (.inl ⟨a, b, vs, ws, rfl, rfl, sqT_mono s (hK ▸ h1), sqT_mono s (hK ▸ h3), by rw [DenL.length h2, DenL.length h4]; exact z, fun e1 => ?_, fun e1 e2 => ?_, fun e1 e2 p n => ?_⟩))
      · have e := (DenL.nil_iff h2).mp e1
        subst e
        exact q _ G H Grow.refl (.tup h3 (by simpa using h4))
      · have e := (DenL.nil_iff h4).mp e2
        subst e
        exact q _ G H Grow.refl (.tup h1 (by simpa using h2))
      · have sg := same_upd (o := .tup (vs ++ ws)) (free_sub s n)
        exact q _ _ _ (grow_tup n) (.tup (SqT.of upd_same) (DenL.append (h2.mono sg) (h4.mono sg)))
    · cases hg
  · rename_i a vs ds h1 h2 b ws es h3 h4
    split at hg
    · rename_i z
      cases hg
      refine .inr (.inr (.inr ⟨a, b, vs, ws, rfl, rfl, s _ _ h1, s _ _ h3, by rw [DenL.length h2, DenL.length h4]; exact z, fun p n => ?_⟩))
      have sg := same_upd (o := .lst (vs ++ ws)) (free_sub s n)
      exact q _ _ _ (grow_lst n) (.lst upd_same (DenL.append (h2.mono sg) (h4.mono sg)))
    · cases hg
/-- list + list as a new object of its own -/
def catK2 : D → D → Rho → Out SV
  | .lst xs, .lst ys, ρ2 => if xs.length + ys.length ≤ sizeLine then .ok (.o (.lst (xs ++ ys))) ρ2 else .bad
  | _, _, _ => .bad
def mCat (fa fb : M D) : M SV := fun ρ => (fa ρ).bind fun d ρ1 => (fb ρ1).bind fun e ρ2 => match d, e with
      | .lst xs, .lst ys => if xs.length + ys.length ≤ sizeLine then .ok (.o (.lst (xs ++ ys))) ρ2 else .bad
      | _, _ => .bad
theorem er_cat {a b : Expr} {fa fb : M D} {pos : Pos} (ha : EV X Z io W a fa) (hb : EV X Z io W b fb) : ER X Z io W (.BinOp a .Add b pos) (mCat fa fb) := by
  refine PE.imp (pe_op op_cat ha hb) fun σ H Q ⟨B, G, ρ, hio, R, k⟩ => ?_
  refine Kont.bind k hio R fun x H1 G1 ρ1 d R1 s1 p1 k1 => ?_
  refine Kont.bind k1 hio R1 fun y H2 G2 ρ2 e R2 s2 p2 k2 => ?_
  have p1' := Den.mono s2 p1
  split at k2
  · rename_i xs ys
    split at k2
    · rename_i z
      cases p1' with
      | lst h1 h2 =>
        cases p2 with
        | lst h3 h4 =>
          refine ⟨_, _, _, _, rfl, rfl, R2.sub _ _ h1, R2.sub _ _ h3, by rw [DenL.length h2, DenL.length h4]; exact z, fun p n => ?_⟩
          obtain ⟨R3, r3⟩ := RD.new R2 n (DenL.append h2 h4)
          exact k2.ok R3 (Same.refl _) r3
    · exact k2.elim
  · exact k2.elim
def gNeg : D → Option D
  | .int i => some (.int (-i))
  | _ => none
def mUn (g : D → Option D) (f : M D) : M D := fun ρ => (f ρ).bind fun d ρ1 => .of (g d) ρ1
theorem ev_neg {a : Expr} {fa : M D} {pos : Pos} (ha : EV X Z io W a fa) : EV X Z io W (.UnaryOp .USub a pos) (mUn gNeg fa) := by
  refine PE.imp (pe_un un_neg ha) fun σ H Q ⟨B, G, ρ, hio, R, k⟩ => ?_
  refine Kont.bind k hio R fun x H1 G1 ρ1 d R1 s1 p1 k1 => ?_
  cases p1 <;> try (exact k1.elim)
  exact ⟨_, rfl, k1.ok R1 (Same.refl _) (.int _)⟩

/-! ### comparisons -/
def cI (f : Int → Int → Bool) : D → D → Option Bool
  | .int i, .int j => some (f i j)
  | _, _ => none
theorem bin_cI {op : Value → Value → Sem Value} {f : Int → Int → Bool} (h : OpR X op (rI0 fun i j => .bl (f i j))) : BinB X Z op (cI f) := by
  refine ⟨_, h, fun G H x y d e c Q s hx hy hg q => ?_⟩
  cases hx <;> cases hy <;> simp only [cI] at hg <;> try (cases hg; done)
  cases hg
  exact ⟨_, _, rfl, rfl, q⟩
abbrev cLt : D → D → Option Bool := cI fun i j => decide (i < j)
abbrev cLe : D → D → Option Bool := cI fun i j => decide (i ≤ j)
abbrev cGt : D → D → Option Bool := cI fun i j => decide (j < i)
abbrev cGe : D → D → Option Bool := cI fun i j => decide (j ≤ i)
theorem c_lt : BinB X Z (compareOp .Lt) cLt := bin_cI op_lt
theorem c_le : BinB X Z (compareOp .LtE) cLe := bin_cI op_le
theorem c_gt : BinB X Z (compareOp .Gt) cGt := bin_cI op_gt
theorem c_ge : BinB X Z (compareOp .GtE) cGe := bin_cI op_ge
def D.isNon : D → Bool
  | .non => true
  | _ => false
def cIsN (d e : D) : Option Bool := match e with
  | .non => some d.isNon
  | _ => none
def cNotN (d e : D) : Option Bool := match e with
  | .non => some (!d.isNon)
  | _ => none
theorem den_non {v : V} {d : D} (h : Den Z G v d) : decide (v = .non) = d.isNon := by
  cases h <;> simp [D.isNon]
theorem c_isN : BinB X Z (compareOp .Is) cIsN := by
  refine ⟨_, op_isN, fun G H x y d e c Q s hx hy hg q => ?_⟩
  cases hy <;> simp only [cIsN] at hg <;> try (cases hg; done)
  cases hg
  exact ⟨rfl, by rw [den_non hx]; exact q⟩
theorem c_notN : BinB X Z (compareOp .IsNot) cNotN := by
  refine ⟨_, op_notN, fun G H x y d e c Q s hx hy hg q => ?_⟩
  cases hy <;> simp only [cNotN] at hg <;> try (cases hg; done)
  cases hg
  exact ⟨rfl, by rw [den_non hx]; exact q⟩

/-! ### == -/
mutual
def pd : D → Option PyData
  | .non => some .none
  | .bl b => some (.bool b)
  | .int i => some (.int i)
  | .str x => some (.str x)
  | .tup xs => (pdL xs).map .tuple
  | .lst xs => (pdL xs).map .list
  | .scr xs => (pdL xs).map .list
  | .dic _ => none
  | .fn _ => none
  | .exc => none
def pdL : List D → Option (List PyData)
  | [] => some []
  | x :: xs => (pd x).bind fun a => (pdL xs).map (a :: ·)
end
mutual
theorem den_dp : ∀ {v : V} {d : D} {p : PyData}, Den Z G v d → pd d = some p → Dp Z.K G v p
  | _, _, _, .non, e => by simp only [pd] at e; cases e; exact .non
  | _, _, _, .bl b, e => by simp only [pd] at e; cases e; exact .bl b
  | _, _, _, .int i, e => by simp only [pd] at e; cases e; exact .int i
  | _, _, _, .str x, e => by simp only [pd] at e; cases e; exact .str x
  | _, _, _, .tup h t, e => by
    simp only [pd, Option.map_eq_some_iff] at e
    obtain ⟨ps, h1, rfl⟩ := e
    exact .tup h (denL_dp t h1)
  | _, _, _, .lst h t, e => by
    simp only [pd, Option.map_eq_some_iff] at e
    obtain ⟨ps, h1, rfl⟩ := e
    exact .lst (SqL.of h) (denL_dp t h1)
  | _, _, _, .scr h t, e => by
    simp only [pd, Option.map_eq_some_iff] at e
    obtain ⟨ps, h1, rfl⟩ := e
    exact .lst h (denL_dp t h1)
  | _, _, _, .fn _, e => by simp only [pd] at e; cases e
  | _, _, _, .exc, e => by simp only [pd] at e; cases e
theorem denL_dp : ∀ {vs : List V} {ds : List D} {ps : List PyData}, DenL Z G vs ds → pdL ds = some ps → DpAll Z.K G vs ps
  | _, _, _, .nil, e => by simp only [pdL] at e; cases e; exact .nil
  | _, _, _, .cons h t, e => by
    simp only [pdL, Option.bind_eq_some_iff, Option.map_eq_some_iff] at e
    obtain ⟨p, h1, ps, h2, rfl⟩ := e
    exact .cons (den_dp h h1) (denL_dp t h2)
end
mutual
theorem dp_mono {K : PySem.W.Frag} {H H' : Hp} (s : Same H H') : ∀ {v : V} {p : PyData}, Dp K H v p → Dp K H' v p
  | _, _, .non => .non
  | _, _, .bl b => .bl b
  | _, _, .int i => .int i
  | _, _, .str x => .str x
  | _, _, .lst h t => .lst (Same.seq s h) (dpAll_mono s t)
  | _, _, .tup h t => .tup (sqT_mono s h) (dpAll_mono s t)
theorem dpAll_mono {K : PySem.W.Frag} {H H' : Hp} (s : Same H H') : ∀ {v : List V} {p : List PyData}, DpAll K H v p → DpAll K H' v p
  | _, _, .nil => .nil
  | _, _, .cons h t => .cons (dp_mono s h) (dpAll_mono s t)
end
/-- == of data -/
def cEq (d e : D) : Option Bool := match pd d, pd e with
  | some p, some q => if SeqAt.shaped p && SeqAt.shaped q then some (PyData.eqv p q) else none
  | _, _ => none
def cNe (d e : D) : Option Bool := match pd d, pd e with
  | some p, some q => if SeqAt.shaped p && SeqAt.shaped q then some (!PyData.eqv p q) else none
  | _, _ => none
theorem c_eq (hu : X.A.units + 64 < cLine) (hK : X.K = Z.K := by rfl) : BinB X Z (compareOp .Eq) cEq := by
  refine ⟨_, op_eqD hu, fun G H x y d e c Q s hx hy hg q => ?_⟩
  unfold cEq at hg
  split at hg
  · rename_i p p' h1 h2
    split at hg
    · rename_i z
      cases hg
      rw [Bool.and_eq_true] at z
      exact ⟨p, p', by rw [hK]; exact dp_mono s (den_dp hx h1), by rw [hK]; exact dp_mono s (den_dp hy h2), z.1, z.2, q⟩
    · cases hg
  · cases hg
theorem c_ne (hu : X.A.units + 64 < cLine) (hK : X.K = Z.K := by rfl) : BinB X Z (compareOp .NotEq) cNe := by
  refine ⟨_, op_neD hu, fun G H x y d e c Q s hx hy hg q => ?_⟩
  unfold cNe at hg
  split at hg
  · rename_i p p' h1 h2
    split at hg
    · rename_i z
      cases hg
      rw [Bool.and_eq_true] at z
      exact ⟨p, p', by rw [hK]; exact dp_mono s (den_dp hx h1), by rw [hK]; exact dp_mono s (den_dp hy h2), z.1, z.2, q⟩
    · cases hg
  · cases hg
/-- one sign in a text -/
def cInS (d e : D) : Option Bool := match d, e with
  | .str w, .str z => match w.cps.toList with
    | [c] => some (decide (c ∈ z.cps.toList))
    | _ => none
  | _, _ => none
theorem str_one {w : Str} {c : Nat} (h : w.cps.toList = [c]) : w = ⟨#[c]⟩ := by
  cases w with
  | mk a =>
    have : a = #[c] := by
      apply Array.ext'
      simpa using h
    rw [this]
theorem c_inS : BinB X Z (compareOp .In) cInS := by
  refine ⟨_, op_in_sign, fun G H x y d e c Q s hx hy hg q => ?_⟩
  cases hx <;> cases hy <;> simp only [cInS] at hg <;> try (cases hg; done)
  split at hg
  · rename_i c h
    cases hg
    exact ⟨c, _, by rw [str_one h], rfl, q⟩
  · cases hg

/-! ### items and slices -/
def gIx (d e : D) : Option D := match d, e with
  | .tup xs, .int i => atI xs i
  | .lst xs, .int i => atI xs i
  | .scr xs, .int i => atI xs i
  | _, _ => none
theorem denL_at {vs : List V} {ds : List D} {i : Int} {d : D} (h : DenL Z G vs ds) (e : atI ds i = some d) : ∃ v, atI vs i = some v ∧ Den Z G v d := by
  unfold atI at e ⊢
  rw [DenL.length h]
  cases q : ixN ds.length i with
  | none => rw [q] at e; cases e
  | some j =>
    rw [q] at e
    exact h.get e
theorem ev_ix {a b : Expr} {fa fb : M D} {pos : Pos} (ha : EV X Z io W a fa) (hb : EV X Z io W b fb) (hs : PlainIx b := by exact fun _ _ => rfl) (hK : X.K = Z.K := by rfl) : EV X Z io W (.Subscript a b pos) (mBin gIx fa fb) := by
  refine PE.imp (pe_ix (ix_list.or ix_tup) ha hb hs) fun σ H Q ⟨B, G, ρ, hio, R, k⟩ => ?_
  refine Kont.bind k hio R fun x H1 G1 ρ1 d R1 s1 p1 k1 => ?_
  refine Kont.bind k1 hio R1 fun y H2 G2 ρ2 e R2 s2 p2 k2 => ?_
  have p1' := Den.mono s2 p1
  unfold Out.of gIx at k2
  cases p2 <;> cases p1' <;> simp only at k2 <;> try (exact k2.elim)
  · rename_i i a vs ds h1 h2
    split at k2
    · rename_i d e
      obtain ⟨v, h3, h4⟩ := denL_at h2 e
      exact .inr ⟨a, vs, i, v, rfl, rfl, by rw [hK]; exact sqT_mono R2.sub h1, h3, k2.ok R2 (Same.refl _) h4⟩
    · exact k2.elim
  · rename_i i a vs ds h1 h2
    split at k2
    · rename_i d e
      obtain ⟨v, h3, h4⟩ := denL_at h2 e
      exact .inl ⟨a, vs, i, v, rfl, rfl, SqL.of (R2.sub _ _ h1), h3, k2.ok R2 (Same.refl _) h4⟩
    · exact k2.elim
  · rename_i i a vs ds h1 h2
    split at k2
    · rename_i d e
      obtain ⟨v, h3, h4⟩ := denL_at h2 e
      exact .inl ⟨a, vs, i, v, rfl, rfl, by rw [hK]; exact Same.seq R2.sub h1, h3, k2.ok R2 (Same.refl _) h4⟩
    · exact k2.elim
/-- an optional part of a slice -/
def EO (X : Cx) (Z : Zx) (io : List Nat) (W : WX) (e : Option Expr) (f : M (Option Int)) : Prop := PO X e (tG Z io W (fun _ _ _ _ _ (o : Option Int) p => o = p) f)
theorem PO.imp {X : Cx} {e : Option Expr} {t t' : TO} (h : PO X e t) (i : ∀ σ H Q, t' σ H Q → t σ H Q) : PO X e t' := ⟨fun pins s σ H Q I q => h.run pins s σ H Q I (i σ H Q q)⟩
def mNo : M (Option Int) := fun ρ => .ok none ρ
def mPart (f : M D) : M (Option Int) := fun ρ => (f ρ).bind fun d ρ1 => match d with
  | .int i => .ok (some i) ρ1
  | _ => .bad
theorem eo_none : EO X Z io W none mNo := PO.imp po_none fun σ H Q ⟨B, G, ρ, hio, R, k⟩ => k.ok R (Same.refl _) rfl
theorem eo_some {e : Expr} {fa : M D} (h : EV X Z io W e fa) : EO X Z io W (some e) (mPart fa) := PO.imp (po_some h) fun σ H Q ⟨B, G, ρ, hio, R, k⟩ => by
  refine Kont.bind k hio R fun x H1 G1 ρ1 d R1 s1 p1 k1 => ?_
  cases p1 <;> try (exact k1.elim)
  exact ⟨_, rfl, k1.ok R1 (Same.refl _) rfl⟩
def cutD (xs : List D) (lo hi : Option Int) : List D := (xs.drop (HT.sIx xs.length 0 lo)).take (HT.sIx xs.length xs.length hi - HT.sIx xs.length 0 lo)
theorem denL_cut {vs : List V} {ds : List D} {lo hi : Option Int} (h : DenL Z G vs ds) : DenL Z G (cutV vs lo hi) (cutD ds lo hi) := by
  unfold cutV cutD
  rw [DenL.length h]
  exact (h.drop _).take _
theorem cut_whole {ds : List D} {lo hi : Option Int} (h : HT.sIx ds.length 0 lo = 0 ∧ HT.sIx ds.length ds.length hi = ds.length) : cutD ds lo hi = ds := by
  unfold cutD
  rw [h.1, h.2]
  simp
/-- a slice of a tuple, a text, a list (a new one, frozen) -/
def gSl (d : D) (lo hi : Option Int) : Option D := match d with
  | .tup xs => some (.tup (cutD xs lo hi))
  | .lst xs => some (.lst (cutD xs lo hi))
  | .str z => if z.length ≤ sizeLine then some (.str (cutS z lo hi)) else none
  | _ => none
def mSl (fa : M D) (fl fh : M (Option Int)) : M D := fun ρ => (fa ρ).bind fun d ρ1 => (fl ρ1).bind fun l ρ2 => (fh ρ2).bind fun h ρ3 => .of (gSl d l h) ρ3
theorem ev_sl {a : Expr} {lo hi : Option Expr} {fa : M D} {fl fh : M (Option Int)} {p2 pos : Pos} (ha : EV X Z io W a fa) (hl : EO X Z io W lo fl) (hh : EO X Z io W hi fh) (hK : X.K = Z.K := by rfl) : EV X Z io W (.Subscript a (.Slice lo hi none p2) pos) (mSl fa fl fh) := by
  refine PE.imp (pe_slice (sl_tupA.or (sl_list.or sl_str)) ha hl hh) fun σ H Q ⟨B, G, ρ, hio, R, k⟩ => ?_
  refine Kont.bind k hio R fun x H1 G1 ρ1 d R1 s1 p1 k1 => ?_
  refine Kont.bind k1 hio R1 fun l H2 G2 ρ2 l' R2 s2 p2 k2 => ?_
  refine Kont.bind k2 hio R2 fun h H3 G3 ρ3 h' R3 s3 p3 k3 => ?_
  subst p2 p3
  have p1' := Den.mono s3 (Den.mono s2 p1)
  unfold Out.of gSl at k3
  cases p1' <;> simp only at k3 <;> try (exact k3.elim)
  · split at k3
    · rename_i z
      split at z
      · rename_i z1
        cases z
        exact .inr (.inr ⟨_, rfl, z1, k3.ok R3 (Same.refl _) (.str _)⟩)
      · cases z
    · exact k3.elim
  · rename_i a vs ds h1 h2
    refine .inl ⟨a, vs, rfl, by rw [hK]; exact sqT_mono R3.sub h1, fun w => ?_, fun w p n => ?_⟩
    · rw [DenL.length h2] at w
      exact k3.ok R3 (Same.refl _) (by rw [cut_whole w]; exact .tup h1 h2)
    · have R4 := R3.newF (o := .tup (cutV vs l h)) n nt_tup
      have s4 := same_upd (o := .tup (cutV vs l h)) (R3.freeG n)
      exact k3.ok R4 s4 (.tup (SqT.of upd_same) (denL_cut (h2.mono s4)))
  · rename_i a vs ds h1 h2
    refine .inr (.inl ⟨a, vs, rfl, SqL.of (R3.sub _ _ h1), fun p n => ?_⟩)
    have R4 := R3.newF (o := .lst (cutV vs l h)) n nt_lst
    have s4 := same_upd (o := .lst (cutV vs l h)) (R3.freeG n)
    exact k3.ok R4 s4 (.lst upd_same (denL_cut (h2.mono s4)))
end
end DL
/-! DL4: calls of built-ins and of their methods, f-strings, what reads a slot's own object. -/
namespace DL
open PySem PySem.Spec PyProof.Rows L2

section
variable {X : Cx} {Z : Zx} {io : List Nat} {W : WX} {G H : Hp}

/-- a built-in called with data: its value is data, perhaps one new object -/
def FunD (X : Cx) (Z : Zx) (f : Value) (g : List D → Option D) : Prop :=
  ∃ r, CallR X f r ∧ ∀ G H vs ds c Q, Same G H → DenL Z G vs ds → g ds = some c → (∀ v G' H', Grow G H G' H' → Den Z G' v c → Q v H') → r vs H Q
/-- .. a new list of its own -/
def FunL (X : Cx) (Z : Zx) (f : Value) (g : List D → Option (List D)) : Prop :=
  ∃ r, CallR X f r ∧ ∀ G H vs ds c Q, Same G H → DenL Z G vs ds → g ds = some c → (∀ p ws, H p = none → DenL Z G ws c → Q (.ref p) (upd H p (.lst ws))) → r vs H Q
def mFun (g : List D → Option D) (fs : M (List D)) : M D := fun ρ => (fs ρ).bind fun ds ρ1 => .of (g ds) ρ1
def mFunL (g : List D → Option (List D)) (fs : M (List D)) : M SV := fun ρ => (fs ρ).bind fun ds ρ1 => (Out.of (g ds) ρ1).bind fun c ρ2 => .ok (.o (.lst c)) ρ2
section
variable {x : Str} {p pos : Pos} {e : Expr} {es : List Expr} {fs : M (List D)}
theorem fun_core {f : Value} {g : List D → Option D} {r : List V → Hp → VK → Prop} (h2 : ∀ G H vs ds c Q, Same G H → DenL Z G vs ds → g ds = some c → (∀ v G' H', Grow G H G' H' → Den Z G' v c → Q v H') → r vs H Q) (σ : L2.St) (H : Hp) (Q : VK)
    (q : tG Z io W (PV Z) (mFun g fs) σ H Q) : tCB r (tG Z io W (PL Z) fs) σ H Q := by
  obtain ⟨B, G, ρ, hio, R, k⟩ := q
  refine Kont.bind k hio R fun vs H1 G1 ρ1 ds R1 s1 p1 k1 => ?_
  unfold Out.of at k1
  split at k1
  · rename_i c hc
    refine h2 G1 H1 vs ds c Q R1.sub p1 hc fun v G3 H3 g3 d3 => ?_
    obtain ⟨R3, s3⟩ := R1.grow g3
    exact k1.ok R3 s3 d3
  · exact k1.elim
theorem funL_core {f : Value} {g : List D → Option (List D)} {r : List V → Hp → VK → Prop} (h2 : ∀ G H vs ds c Q, Same G H → DenL Z G vs ds → g ds = some c → (∀ p ws, H p = none → DenL Z G ws c → Q (.ref p) (upd H p (.lst ws))) → r vs H Q) (σ : L2.St) (H : Hp) (Q : VK)
    (q : tG Z io W (PR Z) (mFunL g fs) σ H Q) : tCB r (tG Z io W (PL Z) fs) σ H Q := by
  obtain ⟨B, G, ρ, hio, R, k⟩ := q
  refine Kont.bind k hio R fun vs H1 G1 ρ1 ds R1 s1 p1 k1 => ?_
  cases hc : g ds with
  | some c =>
    rw [hc] at k1
    simp only [Out.of, Out.bind] at k1
    refine h2 G1 H1 vs ds c Q R1.sub p1 hc fun p ws n d => ?_
    obtain ⟨R3, r3⟩ := RD.new R1 n d
    exact k1.ok R3 (Same.refl _) r3
  | none =>
    rw [hc] at k1
    exact k1.elim
theorem ev_callB {id : String} {g : List D → Option D} (hf : FunD X Z (.builtin id) g) (hm : X.mg x = none) (hv : bootBuiltins x = some (.builtin id)) (ha : EL X Z io W (e :: es) fs) (hg : Gl X x := by rfl) (hn : x ≠ "__name__" := by decide) (hdb : (x == ("__debug__" : Str)) = false := by decide)
    (he : starEach (e :: es) X.env = (false, eval e X.env) :: starEach es X.env := by rfl) (hpl : (backTo pos (starEach es X.env)).any (·.1) = false := by rfl) : EV X Z io W (.Call (.Name x p) (e :: es) [] pos) (mFun g fs) := by
  obtain ⟨r, h1, h2⟩ := hf
  exact PE.imp (pe_callB h1 hg hm hv ha hn hdb he hpl) (fun_core (f := .builtin id) h2)
theorem ev_callT {T : String} {g : List D → Option D} (hf : FunD X Z (.type T) g) (hm : X.mg x = none) (hv : bootBuiltins x = some (.type T)) (ha : EL X Z io W (e :: es) fs) (hg : Gl X x := by rfl) (hn : x ≠ "__name__" := by decide) (hdb : (x == ("__debug__" : Str)) = false := by decide)
    (he : starEach (e :: es) X.env = (false, eval e X.env) :: starEach es X.env := by rfl) (hpl : (backTo pos (starEach es X.env)).any (·.1) = false := by rfl) : EV X Z io W (.Call (.Name x p) (e :: es) [] pos) (mFun g fs) := by
  obtain ⟨r, h1, h2⟩ := hf
  exact PE.imp (pe_callTy h1 hg hm hv ha hn hdb he hpl) (fun_core (f := .type T) h2)
theorem er_callB {id : String} {g : List D → Option (List D)} (hf : FunL X Z (.builtin id) g) (hm : X.mg x = none) (hv : bootBuiltins x = some (.builtin id)) (ha : EL X Z io W (e :: es) fs) (hg : Gl X x := by rfl) (hn : x ≠ "__name__" := by decide) (hdb : (x == ("__debug__" : Str)) = false := by decide)
    (he : starEach (e :: es) X.env = (false, eval e X.env) :: starEach es X.env := by rfl) (hpl : (backTo pos (starEach es X.env)).any (·.1) = false := by rfl) : ER X Z io W (.Call (.Name x p) (e :: es) [] pos) (mFunL g fs) := by
  obtain ⟨r, h1, h2⟩ := hf
  exact PE.imp (pe_callB h1 hg hm hv ha hn hdb he hpl) (funL_core (f := .builtin id) h2)
theorem er_callT {T : String} {g : List D → Option (List D)} (hf : FunL X Z (.type T) g) (hm : X.mg x = none) (hv : bootBuiltins x = some (.type T)) (ha : EL X Z io W (e :: es) fs) (hg : Gl X x := by rfl) (hn : x ≠ "__name__" := by decide) (hdb : (x == ("__debug__" : Str)) = false := by decide)
    (he : starEach (e :: es) X.env = (false, eval e X.env) :: starEach es X.env := by rfl) (hpl : (backTo pos (starEach es X.env)).any (·.1) = false := by rfl) : ER X Z io W (.Call (.Name x p) (e :: es) [] pos) (mFunL g fs) := by
  obtain ⟨r, h1, h2⟩ := hf
  exact PE.imp (pe_callTy h1 hg hm hv ha hn hdb he hpl) (funL_core (f := .type T) h2)
end
theorem denL1 {vs : List V} {d : D} (h : DenL Z G vs [d]) : ∃ v, vs = [v] ∧ Den Z G v d := by
  cases h with
  | cons h t => cases t; exact ⟨_, rfl, h⟩
theorem denL2 {vs : List V} {d e : D} (h : DenL Z G vs [d, e]) : ∃ v w, vs = [v, w] ∧ Den Z G v d ∧ Den Z G w e := by
  cases h with
  | cons h t =>
    obtain ⟨w, e, t2⟩ := denL1 t
    subst e
    exact ⟨_, _, rfl, h, t2⟩

/-! ### the built-ins -/
def gLen : List D → Option D
  | [.tup xs] => some (.int xs.length)
  | [.lst xs] => some (.int xs.length)
  | [.scr xs] => some (.int xs.length)
  | [.str x] => if x.length ≤ sizeLine then some (.int x.length) else none
  | _ => none
theorem f_len (hK : X.K = Z.K := by rfl) : FunD X Z (.builtin "len") gLen := by
  refine ⟨_, call_len, fun G H vs ds c Q s hv hg q => ?_⟩
  unfold gLen at hg
  split at hg
  · cases hg
    obtain ⟨v, rfl, h⟩ := denL1 hv
    cases h with
    | tup h t => exact ⟨_, _, rfl, .inr ⟨_, by rw [hK]; exact sqT_mono s h, (DenL.length t).symm⟩, q _ G H Grow.refl (.int _)⟩
  · cases hg
    obtain ⟨v, rfl, h⟩ := denL1 hv
    cases h with
    | lst h t => exact ⟨_, _, rfl, .inl ⟨_, SqL.of (s _ _ h), (DenL.length t).symm⟩, q _ G H Grow.refl (.int _)⟩
  · cases hg
    obtain ⟨v, rfl, h⟩ := denL1 hv
    cases h with
    | scr h t => exact ⟨_, _, rfl, .inl ⟨_, by rw [hK]; exact Same.seq s h, (DenL.length t).symm⟩, q _ G H Grow.refl (.int _)⟩
  · split at hg
    · rename_i z
      cases hg
      obtain ⟨v, rfl, h⟩ := denL1 hv
      cases h
      exact ⟨_, _, rfl, ⟨z, rfl⟩, q _ G H Grow.refl (.int _)⟩
    · cases hg
  · cases hg
def gAbs : List D → Option D
  | [.int i] => some (.int (if i < 0 then -i else i))
  | _ => none
theorem f_abs : FunD X Z (.builtin "abs") gAbs := by
  refine ⟨_, call_abs, fun G H vs ds c Q s hv hg q => ?_⟩
  unfold gAbs at hg
  split at hg
  · cases hg
    obtain ⟨v, rfl, h⟩ := denL1 hv
    cases h
    exact ⟨_, rfl, q _ G H Grow.refl (.int _)⟩
  · cases hg
/-- max, min of two numbers -/
def gMax2 : List D → Option D
  | [.int i, .int j] => some (.int (if j > i then j else i))
  | _ => none
def gMin2 : List D → Option D
  | [.int i, .int j] => some (.int (if j < i then j else i))
  | _ => none
theorem f_max2 (hc : X.calm = true := by rfl) : FunD X Z (.builtin "max") gMax2 := by
  refine ⟨_, call_max2 hc, fun G H vs ds c Q s hv hg q => ?_⟩
  unfold gMax2 at hg
  split at hg
  · cases hg
    obtain ⟨v, w, rfl, h1, h2⟩ := denL2 hv
    cases h1
    cases h2
    exact ⟨_, _, rfl, q _ G H Grow.refl (.int _)⟩
  · cases hg
theorem f_min2 (hc : X.calm = true := by rfl) : FunD X Z (.builtin "min") gMin2 := by
  refine ⟨_, call_min2 hc, fun G H vs ds c Q s hv hg q => ?_⟩
  unfold gMin2 at hg
  split at hg
  · cases hg
    obtain ⟨v, w, rfl, h1, h2⟩ := denL2 hv
    cases h1
    cases h2
    exact ⟨_, _, rfl, q _ G H Grow.refl (.int _)⟩
  · cases hg
/-- max of a list or a tuple of numbers -/
def maxL (i : Int) (r : List Int) : Int := r.foldl (fun a y => if a < y then y else a) i
theorem maxL_mem (i : Int) (r : List Int) : maxL i r ∈ i :: r := by
  induction r generalizing i with
  | nil => exact List.mem_cons_self
  | cons j r ih =>
    show maxL (if i < j then j else i) r ∈ _
    have := ih (if i < j then j else i)
    rcases List.mem_cons.mp this with e | e
    · rw [e]; split
      · exact List.mem_cons_of_mem _ List.mem_cons_self
      · exact List.mem_cons_self
    · exact List.mem_cons_of_mem _ (List.mem_cons_of_mem _ e)
theorem maxL_ge (i : Int) (r : List Int) : ∀ y ∈ i :: r, y ≤ maxL i r := by
  induction r generalizing i with
  | nil => intro y hy; rw [List.mem_singleton.mp hy]; exact Int.le_refl _
  | cons j r ih =>
    intro y hy
    show y ≤ maxL (if i < j then j else i) r
    have h0 := ih (if i < j then j else i) _ List.mem_cons_self
    rcases List.mem_cons.mp hy with rfl | hy
    · split at h0 <;> split <;> omega
    · rcases List.mem_cons.mp hy with rfl | hy
      · split at h0 <;> split <;> omega
      · exact ih _ y (List.mem_cons_of_mem _ hy)
def gMaxS : List D → Option D
  | [.tup xs] => match ints? xs with
    | some (i :: r) => some (.int (maxL i r))
    | _ => none
  | [.lst xs] => match ints? xs with
    | some (i :: r) => some (.int (maxL i r))
    | _ => none
  | _ => none
theorem cr_maxT (hc : X.calm = true) (hu : X.A.units + 64 < cLine) : CallR X (.builtin "max") (fun vs H Q => ∃ (a : Addr) (i : Int) (r : List Int), vs = [V.ref a] ∧ SqT X.K H a ((i :: r).map V.int) ∧ Q (.int (maxL i r)) H) := by
  intro pins s σ H vs us Q I rv h
  obtain ⟨a, i, r, rfl, hs, q⟩ := h
  obtain ⟨its, rv', hl, _⟩ := I.tuple hs
  rw [Vals.ref1 rv]
  refine PySem.W.max_tuple_datum (α := Int) (x := i) (xs := r) (I.ok.hd hc) (show s.heap.IsTuple a its.toArray from hl) (by rw [List.toList_toArray]; exact PySem.W.HoldAll.of_ints rv'.ints) (by show _ + 1 + 0 < _; omega) fun j v h' tk hi hh hk => ?_
  obtain ⟨as, hr⟩ := hh
  have e : ∃ t, v = .int (PySem.W.maxOf i r) t := by
    cases hr
    exact ⟨_, rfl⟩
  obtain ⟨t, rfl⟩ := e
  refine ⟨.int (maxL i r), H, I.kept (t' := tk) hk, ⟨t, ?_⟩, q⟩
  congr 1
  unfold maxL PySem.W.maxOf
  congr 1
  funext a y
  by_cases z : a < y
  · rw [if_pos z, if_pos (by show decide (a < y) = true; exact decide_eq_true z)]
  · rw [if_neg z, if_neg (by show ¬ decide (a < y) = true; simpa using z)]
theorem f_maxS (hu : X.A.units + 64 < cLine) (hc : X.calm = true := by rfl) (hK : X.K = Z.K := by rfl) : FunD X Z (.builtin "max") gMaxS := by
  refine ⟨_, (cr_maxT hc hu).or (cr_max hc), fun G H vs ds c Q s hv hg q => ?_⟩
  unfold gMaxS at hg
  split at hg
  · split at hg
    · rename_i i r e
      cases hg
      obtain ⟨v, rfl, h⟩ := denL1 hv
      cases h with
      | tup h t =>
        have := vals_ints? t e
        subst this
        exact .inl ⟨_, i, r, rfl, by rw [hK]; exact sqT_mono s h, q _ G H Grow.refl (.int _)⟩
    · cases hg
  · split at hg
    · rename_i i r e
      cases hg
      obtain ⟨v, rfl, h⟩ := denL1 hv
      cases h with
      | lst h t =>
        have := vals_ints? t e
        subst this
        refine .inr ⟨_, i :: r, rfl, SqL.of (s _ _ h), Nat.zero_lt_succ _, fun m hm hy => ?_⟩
        have : m = maxL i r := Int.le_antisymm (maxL_ge i r m hm) (hy _ (maxL_mem i r))
        subst this
        exact q _ G H Grow.refl (.int _)
    · cases hg
  · cases hg
def gInt : List D → Option D
  | [.int i] => some (.int i)
  | [.bl b] => some (.int (if b then 1 else 0))
  | _ => none
theorem f_int : FunD X Z (.type "int") gInt := by
  refine ⟨_, call_int1, fun G H vs ds c Q s hv hg q => ?_⟩
  unfold gInt at hg
  split at hg
  · cases hg
    obtain ⟨v, rfl, h⟩ := denL1 hv
    cases h
    exact .inl ⟨_, rfl, q _ G H Grow.refl (.int _)⟩
  · cases hg
    obtain ⟨v, rfl, h⟩ := denL1 hv
    cases h
    exact .inr ⟨_, rfl, q _ G H Grow.refl (.int _)⟩
  · cases hg
/-- str of a number -/
def gStr : List D → Option D
  | [.int i] => if i.natAbs.log2 < 1920 then some (.str (toString i)) else none
  | _ => none
theorem f_str : FunD X Z (.type "str") gStr := by
  refine ⟨_, call_str_int, fun G H vs ds c Q s hv hg q => ?_⟩
  unfold gStr at hg
  split at hg
  · split at hg
    · rename_i z
      cases hg
      obtain ⟨v, rfl, h⟩ := denL1 hv
      cases h
      exact ⟨_, rfl, z, q _ G H Grow.refl (.str _)⟩
    · cases hg
  · cases hg
def gTuple : List D → Option D
  | [.lst xs] => some (.tup xs)
  | [.tup xs] => some (.tup xs)
  | _ => none
theorem f_tuple (hK : X.K = Z.K := by rfl) : FunD X Z (.type "tuple") gTuple := by
  refine ⟨_, call_tuple_of, fun G H vs ds c Q s hv hg q => ?_⟩
  unfold gTuple at hg
  split at hg
  · cases hg
    obtain ⟨v, rfl, h⟩ := denL1 hv
    cases h with
    | lst h t =>
      refine ⟨_, _, rfl, .inl ⟨SqL.of (s _ _ h), fun l n => ?_⟩⟩
      exact q _ _ _ (grow_tup n) (.tup (SqT.of upd_same) (DenL.mono (same_upd (free_sub s n)) t))
  · cases hg
    obtain ⟨v, rfl, h⟩ := denL1 hv
    cases h with
    | tup h t => exact ⟨_, _, rfl, .inr ⟨by rw [hK]; exact sqT_mono s h, q _ G H Grow.refl (.tup h t)⟩⟩
  · cases hg
/-- list(..): a new list -/
def gList : List D → Option (List D)
  | [.lst xs] => some xs
  | [.tup xs] => some xs
  | [.scr xs] => some xs
  | _ => none
theorem f_list (hK : X.K = Z.K := by rfl) : FunL X Z (.type "list") gList := by
  refine ⟨_, call_list_of, fun G H vs ds c Q s hv hg q => ?_⟩
  unfold gList at hg
  split at hg
  · cases hg
    obtain ⟨v, rfl, h⟩ := denL1 hv
    cases h with
    | lst h t => exact ⟨_, _, rfl, .inl (SqL.of (s _ _ h)), fun l n => q l _ n t⟩
  · cases hg
    obtain ⟨v, rfl, h⟩ := denL1 hv
    cases h with
    | tup h t => exact ⟨_, _, rfl, .inr (by rw [hK]; exact sqT_mono s h), fun l n => q l _ n t⟩
  · cases hg
    obtain ⟨v, rfl, h⟩ := denL1 hv
    cases h with
    | scr h t => exact ⟨_, _, rfl, .inl (by rw [hK]; exact Same.seq s h), fun l n => q l _ n t⟩
  · cases hg
def gSum : List D → Option D
  | [.lst xs] => (ints? xs).map fun ns => .int ns.sum
  | _ => none
theorem f_sum (hc : X.calm = true := by rfl) : FunD X Z (.builtin "sum") gSum := by
  refine ⟨_, cr_sum hc, fun G H vs ds c Q s hv hg q => ?_⟩
  unfold gSum at hg
  split at hg
  · simp only [Option.map_eq_some_iff] at hg
    obtain ⟨ns, e, rfl⟩ := hg
    obtain ⟨v, rfl, h⟩ := denL1 hv
    cases h with
    | lst h t =>
      have := vals_ints? t e
      subst this
      exact ⟨_, ns, rfl, SqL.of (s _ _ h), q _ G H Grow.refl (.int _)⟩
  · cases hg
def gAll : List D → Option D
  | [.lst xs] => (bls? xs).map fun bs => .bl (bs.all id)
  | _ => none
theorem f_all (hc : X.calm = true := by rfl) : FunD X Z (.builtin "all") gAll := by
  refine ⟨_, cr_all hc, fun G H vs ds c Q s hv hg q => ?_⟩
  unfold gAll at hg
  split at hg
  · simp only [Option.map_eq_some_iff] at hg
    obtain ⟨ns, e, rfl⟩ := hg
    obtain ⟨v, rfl, h⟩ := denL1 hv
    cases h with
    | lst h t =>
      have := vals_bls? t e
      subst this
      exact ⟨_, ns, rfl, SqL.of (s _ _ h), q _ G H Grow.refl (.bl _)⟩
  · cases hg
def gAny : List D → Option D
  | [.lst xs] => (bls? xs).map fun bs => .bl (bs.any id)
  | _ => none
theorem f_any (hc : X.calm = true := by rfl) : FunD X Z (.builtin "any") gAny := by
  refine ⟨_, cr_any hc, fun G H vs ds c Q s hv hg q => ?_⟩
  unfold gAny at hg
  split at hg
  · simp only [Option.map_eq_some_iff] at hg
    obtain ⟨ns, e, rfl⟩ := hg
    obtain ⟨v, rfl, h⟩ := denL1 hv
    cases h with
    | lst h t =>
      have := vals_bls? t e
      subst this
      exact ⟨_, ns, rfl, SqL.of (s _ _ h), q _ G H Grow.refl (.bl _)⟩
  · cases hg

/-! ### isinstance(x, T), T a built-in class -/
def D.ty : D → Option String
  | .non => some "NoneType"
  | .bl _ => some "bool"
  | .int _ => some "int"
  | .str _ => some "str"
  | .tup _ => some "tuple"
  | .lst _ => some "list"
  | _ => none
def gIsi (T : String) (d : D) : Option D := match d.ty with
  | some t => (kitB t T).map .bl
  | none => none
theorem ev_isi {T : String} {x : Str} {a : Expr} {fa : M D} {p p2 pos : Pos} (hm : X.mg "isinstance" = none) (hmT : X.mg x = none) (hvT : bootBuiltins x = some (.type T)) (ha : EV X Z io W a fa) (hg : Gl X "isinstance" := by rfl) (hgT : Gl X x := by rfl) (hn : x ≠ "__name__" := by decide) (hdb : (x == ("__debug__" : Str)) = false := by decide)
    (he : starEach [a, .Name x p2] X.env = (false, eval a X.env) :: starEach [.Name x p2] X.env := by rfl) (he2 : starEach [.Name x p2] X.env = (false, eval (.Name x p2) X.env) :: starEach [] X.env := by rfl) (hpl : (backTo pos (starEach [.Name x p2] X.env)).any (·.1) = false := by rfl) (hK : X.K = Z.K := by rfl) :
    EV X Z io W (.Call (.Name "isinstance" p) [a, .Name x p2] [] pos) (mUn (gIsi T) fa) := by
  refine PE.imp (pe_callB call_isi hg hm boot_isinstance (pa_cons ha (pa_cons (pe_bltn (v := .ty T) hgT hmT hvT rfl hn hdb) pa_nil he2) he) (by decide) (by decide) he hpl) fun σ H Q ⟨B, G, ρ, hio, R, k⟩ => ?_
  refine Kont.bind k hio R fun v H1 G1 ρ1 d R1 s1 p1 k1 => ?_
  show ∃ (x c : V) (t u : Value) (b : Bool), [v, V.ty T] = [x, c] ∧ ClsV c u ∧ TyX X.K H1 x t ∧ PySem.W.kitOne X.K t u = some b ∧ Q (.bl b) H1
  unfold gIsi at k1
  have key : ∀ t, d.ty = some t → TyX X.K H1 v (.type t) := fun t e => by
    cases p1 with
    | non => cases e; exact .base .non
    | bl b => cases e; exact .base (.bl b)
    | int i => cases e; exact .base (.int i)
    | str y => cases e; exact .base (.str y)
    | fn h => cases e
    | exc => cases e
    | scr h t => cases e
    | lst h t => cases e; exact .base (.lst (R1.sub _ _ h))
    | tup h t =>
      cases e
      have h' := sqT_mono R1.sub h
      rcases h' with (h' | ⟨o, h'⟩) | ⟨o, its, n, hk, hc, _⟩
      · exact .base (.tup h')
      · exact .fTuple h'
      · exact .kTuple (by rw [hK]; exact hk) hc
  split at k1
  · rename_i t e
    cases hb : kitB t T with
    | none => rw [hb] at k1; exact k1.elim
    | some b =>
      rw [hb] at k1
      exact ⟨v, _, _, _, b, rfl, .ty T, key t e, kit_ty hb, k1.ok R1 (Same.refl _) (.bl b)⟩
  · exact k1.elim

/-! ### methods of texts -/
def mStr1 (g : Str → D → Option D) (fa fb : M D) : M D := fun ρ => (fa ρ).bind fun d ρ1 => match d with
  | .str a => (fb ρ1).bind fun e ρ2 => .of (g a e) ρ2
  | _ => .bad
def gJoin (a : Str) (e : D) : Option D := match e with
  | .lst xs => match strs? xs with
    | some ys => if (ys.map (·.length)).sum + ys.length * a.length ≤ 16777216 then some (.str (Txt.join a ys)) else none
    | none => none
  | _ => none
theorem ev_join {a b : Expr} {fa fb : M D} {apos pos : Pos} (ha : EV X Z io W a fa) (hb : EV X Z io W b fb) (hs : starEach [b] X.env = [(false, eval b X.env)] := by rfl) (hbase : attributeBase a "join" X.env (eval a X.env) = eval a X.env := by rfl) (hline : (apos.endLine == pos.line) = true := by rfl) :
    EV X Z io W (.Call (.Attribute a "join" apos) [b] [] pos) (mStr1 gJoin fa fb) := by
  refine PE.imp (pe_join ha hb hs hbase hline) fun σ H Q ⟨B, G, ρ, hio, R, k⟩ => ?_
  refine Kont.bind k hio R fun x H1 G1 ρ1 d R1 s1 p1 k1 => ?_
  cases d with
  | str a =>
    cases p1
    refine ⟨⟨_, rfl⟩, ?_⟩
    refine Kont.bind k1 hio R1 fun y H2 G2 ρ2 e R2 s2 p2 k2 => ?_
    unfold Out.of gJoin at k2
    cases p2 <;> simp only at k2 <;> try (exact k2.elim)
    rename_i p vs ds h1 h2
    cases hs : strs? ds with
    | none => rw [hs] at k2; exact k2.elim
    | some ys =>
      rw [hs] at k2
      simp only at k2
      by_cases z : (ys.map (·.length)).sum + ys.length * a.length ≤ 16777216
      · rw [if_pos z] at k2
        have := vals_strs? h2 hs
        subst this
        exact ⟨a, p, ys, rfl, rfl, .inl (SqL.of (R2.sub _ _ h1)), z, k2.ok R2 (Same.refl _) (.str _)⟩
      · rw [if_neg z] at k2
        exact k2.elim
  | _ => exact k1.elim
/-- x.split(sep): a new list of texts -/
def mSplit (fa fb : M D) : M SV := fun ρ => (fa ρ).bind fun d ρ1 => match d with
  | .str a => (fb ρ1).bind fun e ρ2 => match e with
    | .str b => if (b.length == 0) = false ∧ a.length + 2 ≤ sizeLine then .ok (.o (.lst ((Txt.split a b).map .str))) ρ2 else .bad
    | _ => .bad
  | _ => .bad
theorem denL_strs (ys : List Str) : DenL Z G (ys.map V.str) (ys.map D.str) := by
  induction ys with
  | nil => exact .nil
  | cons y r ih => exact .cons (.str y) ih
theorem er_split {a b : Expr} {fa fb : M D} {apos pos : Pos} (ha : EV X Z io W a fa) (hb : EV X Z io W b fb) (hs : starEach [b] X.env = [(false, eval b X.env)] := by rfl) (hbase : attributeBase a "split" X.env (eval a X.env) = eval a X.env := by rfl) (hline : (apos.endLine == pos.line) = true := by rfl) :
    ER X Z io W (.Call (.Attribute a "split" apos) [b] [] pos) (mSplit fa fb) := by
  refine PE.imp (pe_split ha hb hs hbase hline) fun σ H Q ⟨B, G, ρ, hio, R, k⟩ => ?_
  refine Kont.bind k hio R fun x H1 G1 ρ1 d R1 s1 p1 k1 => ?_
  cases d with
  | str a =>
    cases p1
    refine ⟨⟨_, rfl⟩, ?_⟩
    refine Kont.bind k1 hio R1 fun y H2 G2 ρ2 e R2 s2 p2 k2 => ?_
    cases p2 <;> simp only at k2 <;> try (exact k2.elim)
    rename_i b
    by_cases z : (b.length == 0) = false ∧ a.length + 2 ≤ sizeLine
    · rw [if_pos z] at k2
      refine ⟨a, b, rfl, rfl, z.1, z.2, fun p n => ?_⟩
      obtain ⟨R3, r3⟩ := RD.new R2 n (denL_strs (Z := Z) (G := G2) (Txt.split a b))
      exact k2.ok R3 (Same.refl _) r3
    · rw [if_neg z] at k2
      exact k2.elim
  | _ => exact k1.elim
/-- x.index(y) where it is there -/
def gIndexS (a : Str) (e : D) : Option D := match e with
  | .str b => (Txt.index0 a b).map fun k => .int (k : Nat)
  | _ => none
theorem ev_indexS {a b : Expr} {fa fb : M D} {apos cpos : Pos} (ha : EV X Z io W a fa) (hb : EV X Z io W b fb) (hc : X.calm = true := by rfl)
    (hbase : attributeBase a "index" X.env (eval a X.env) = eval a X.env := by rfl)
    (hfew : ((backTo cpos (starEach (b :: []) X.env)).all (fun x => !x.1) && (backToKw cpos (keywordEach [] X.env)).all (fun x => x.1.isSome)
      && decide ((b :: []).length + ([] : List Keyword).length + (if ([] : List Keyword).isEmpty then 0 else 1) < 30)) = true := by rfl)
    (hline : (apos.endLine == cpos.line) = true := by rfl) (hs : starEach (b :: []) X.env = (false, eval b X.env) :: starEach [] X.env := by rfl) (hplain : (backTo cpos (starEach [] X.env)).any (·.1) = false := by rfl) :
    EV X Z io W (.Call (.Attribute a "index" apos) [b] [] cpos) (mStr1 gIndexS fa fb) := by
  refine PE.imp (pe_bmS PySem.F.plainAttrs_str PySem.F.slot_str_index PySem.F.type_str_index (mt_indexX (W := fun _ _ _ _ => False) hc L2.takes0) ha (pa_cons hb pa_nil hs) hbase hfew hline hs hplain) fun σ H Q ⟨B, G, ρ, hio, R, k⟩ => ?_
  refine Kont.bind k hio R fun x H1 G1 ρ1 d R1 s1 p1 k1 => ?_
  cases d with
  | str a =>
    cases p1
    refine ⟨rfl, ?_⟩
    refine Kont.bind k1 hio R1 fun y H2 G2 ρ2 e R2 s2 p2 k2 => ?_
    unfold Out.of gIndexS at k2
    cases p2 <;> simp only at k2 <;> try (exact k2.elim)
    rename_i b
    refine ⟨a, b, rfl, rfl, fun j e => ?_, fun e => ?_⟩
    · rw [e] at k2
      exact k2.ok R2 (Same.refl _) (.int _)
    · rw [e] at k2
      exact k2.elim
  | _ => exact k1.elim

/-! ### f-strings -/
def gFmt : D → Option D
  | .str y => if y.length ≤ sizeLine then some (.str y) else none
  | .int i => if i.natAbs.log2 < 1920 then some (.str (toString i)) else none
  | _ => none
theorem ev_fmt {e : Expr} {fa : M D} {pos : Pos} (h : EV X Z io W e fa) : EV X Z io W (.FormattedValue e (-1) none pos) (mUn gFmt fa) := by
  refine PE.imp (pe_fmt h) fun σ H Q ⟨B, G, ρ, hio, R, k⟩ => ?_
  refine Kont.bind k hio R fun x H1 G1 ρ1 d R1 s1 p1 k1 => ?_
  unfold Out.of gFmt at k1
  cases p1 <;> simp only at k1 <;> try (exact k1.elim)
  · rename_i i
    by_cases z : i.natAbs.log2 < 1920
    · rw [if_pos z] at k1
      exact .inr ⟨i, rfl, z, k1.ok R1 (Same.refl _) (.str _)⟩
    · rw [if_neg z] at k1
      exact k1.elim
  · rename_i y
    by_cases z : y.length ≤ sizeLine
    · rw [if_pos z] at k1
      exact .inl ⟨y, rfl, z, k1.ok R1 (Same.refl _) (.str _)⟩
    · rw [if_neg z] at k1
      exact k1.elim
inductive EJ (X : Cx) (Z : Zx) (io : List Nat) (W : WX) : List Expr → List (M D) → Prop where
  | nil : EJ X Z io W [] []
  | cons {e : Expr} {f : M D} {es : List Expr} {fs : List (M D)} (h : EV X Z io W e f) (r : EJ X Z io W es fs) : EJ X Z io W (e :: es) (f :: fs)
def mJs : List (M D) → Str → M D
  | [], acc => fun ρ => .ok (.str acc) ρ
  | f :: fs, acc => fun ρ => (f ρ).bind fun d ρ1 => match d with
    | .str y => if (acc ++ y).length ≤ sizeLine then mJs fs (acc ++ y) ρ1 else .bad
    | _ => .bad
theorem EJ.pj {es : List Expr} {fs : List (M D)} (h : EJ X Z io W es fs) : PJ X es (fs.map (tG Z io W (PV Z))) := by
  induction h with
  | nil => exact .nil
  | cons h _ ih => exact .cons h ih
theorem js_core {Q : VK} {σ : L2.St} {B : Base} (hio : B.io.map (·.1) = io) : ∀ (fs : List (M D)) (acc : Str) (G H : Hp) (ρ : Rho), Rep Z B G H σ ρ → Kont Z W (PV Z) B G σ Q (mJs fs acc ρ) → tJs (fs.map (tG Z io W (PV Z))) acc σ H (fun out H1 => Q (.str out) H1)
  | [], acc, G, H, ρ, R, k => k.ok R (Same.refl _) (.str acc)
  | f :: fs, acc, G, H, ρ, R, k => by
    refine Kont.bind k hio R fun x H1 G1 ρ1 d R1 s1 p1 k1 => ?_
    cases p1 <;> simp only at k1 <;> try (exact k1.elim)
    rename_i y
    by_cases z : (acc ++ y).length ≤ sizeLine
    · rw [if_pos z] at k1
      exact ⟨y, rfl, z, js_core hio fs (acc ++ y) G1 H1 ρ1 R1 k1⟩
    · rw [if_neg z] at k1
      exact k1.elim
theorem ev_fstr {v1 v2 : Expr} {rest : List Expr} {fs : List (M D)} {pos : Pos} (h : EJ X Z io W (v1 :: v2 :: rest) fs) : EV X Z io W (.JoinedStr (v1 :: v2 :: rest) pos) (mJs fs Str.empty) :=
  PE.imp (pe_joined h.pj) fun σ H Q ⟨B, G, ρ, hio, R, k⟩ => js_core hio fs Str.empty G H ρ R k

/-! ### what reads a slot's own object -/
theorem Rep.slotL {B : Base} {G H : Hp} {σ : L2.St} {ρ : Rho} {i : Nat} {xs : List D} (R : Rep Z B G H σ ρ) (h : ρ[i]? = some (some (SV.o (.lst xs)))) : ∃ p vs, σ[i]? = some (some (V.ref p)) ∧ H p = some (.lst vs) ∧ DenL Z G vs xs := by
  obtain ⟨p, h1, ⟨vs, h2, h3⟩, _⟩ := R.own i _ h
  exact ⟨p, vs, h1, h2, h3⟩
/-- len of a slot's own list -/
def mLenS (i : Nat) : M D := fun ρ => match ρ[i]? with
  | some (some (.o (.lst xs))) => .ok (.int xs.length) ρ
  | _ => .bad
theorem ev_lenS (i : Nat) {x : Str} {p p2 pos : Pos} (hm : X.mg "len" = none) (hN : X.N[i]? = some x := by rfl) (hv : Vis X.env.scope x := by first | exact Or.inl rfl | exact Or.inr (Or.inl rfl) | exact Or.inr (Or.inr rfl)) (hd : (x == ("__debug__" : Str)) = false := by decide)
    (hcd : (x == ("__classdict__" : Str)) = false := by decide) (hg : Gl X "len" := by rfl) (he : starEach [.Name x p2] X.env = (false, eval (.Name x p2) X.env) :: starEach [] X.env := by rfl) (hpl : (backTo pos (starEach [] X.env)).any (·.1) = false := by rfl) :
    EV X Z io W (.Call (.Name "len" p) [.Name x p2] [] pos) (mLenS i) := by
  refine PE.imp (pe_callB call_len hg hm boot_len (pa_cons (pe_var hN hv hd hcd) pa_nil he) (by decide) (by decide) he hpl) fun σ H Q ⟨B, G, ρ, hio, R, k⟩ => ?_
  unfold mLenS at k
  split at k
  · rename_i xs e
    obtain ⟨p, vs, h1, h2, h3⟩ := R.slotL e
    exact ⟨_, h1, _, _, rfl, .inl ⟨vs, SqL.of h2, (DenL.length h3).symm⟩, k.ok R (Same.refl _) (.int _)⟩
  · exact k.elim
/-- an item of a slot's own list -/
def mIxS (i : Nat) (fb : M D) : M D := fun ρ => match ρ[i]? with
  | some (some (.o (.lst _))) => (fb ρ).bind fun e ρ1 => match ρ1[i]?, e with
    | some (some (.o (.lst xs))), .int j => .of (atI xs j) ρ1
    | _, _ => .bad
  | _ => .bad
theorem ev_ixS (i : Nat) {x : Str} {b : Expr} {fb : M D} {p pos : Pos} (hb : EV X Z io W b fb) (hN : X.N[i]? = some x := by rfl) (hv : Vis X.env.scope x := by first | exact Or.inl rfl | exact Or.inr (Or.inl rfl) | exact Or.inr (Or.inr rfl)) (hs : PlainIx b := by exact fun _ _ => rfl) (hd : (x == ("__debug__" : Str)) = false := by decide)
    (hcd : (x == ("__classdict__" : Str)) = false := by decide) : EV X Z io W (.Subscript (.Name x p) b pos) (mIxS i fb) := by
  refine PE.imp (pe_ix ix_list (pe_var hN hv hd hcd) hb hs) fun σ H Q ⟨B, G, ρ, hio, R, k⟩ => ?_
  unfold mIxS at k
  split at k
  · rename_i xs0 e0
    obtain ⟨p0, vs0, h0, _, _⟩ := R.slotL e0
    refine ⟨_, h0, ?_⟩
    refine Kont.bind k hio R fun y H2 G2 ρ2 e R2 s2 p2 k2 => ?_
    split at k2
    · rename_i xs j e2
      obtain ⟨p, vs, h1, h2, h3⟩ := R2.slotL e2
      have hp : p0 = p := by rw [h0] at h1; injection h1 with h1; injection h1 with h1; injection h1
      subst hp
      cases p2
      unfold Out.of at k2
      split at k2
      · rename_i d e
        obtain ⟨v, h4, h5⟩ := denL_at h3 e
        exact ⟨p0, vs, j, v, rfl, rfl, SqL.of h2, h4, k2.ok R2 (Same.refl _) h5⟩
      · exact k2.elim
    · exact k2.elim
  · exact k.elim
end
end DL
/-! DL5: what a def promises, calls of defs, statements, blocks, bodies. -/
namespace DL
open PySem PySem.Spec PyProof.Rows L2

/-! ### a def's mirror -/
inductive FOut where
  | ret (r : SV) (cs : List SV) | ex (x : Ex) (cs : List SV) | bad
abbrev FM := List SV → FOut
/-- the places of the parameters that are objects of the caller's slots -/
def modesFrom (n : Nat) : List SV → List Nat
  | [] => []
  | .d _ :: r => modesFrom (n + 1) r
  | .o _ :: r => n :: modesFrom (n + 1) r
theorem mem_modes : ∀ {l : List SV} {n i : Nat}, i ∈ modesFrom n l ↔ n ≤ i ∧ ∃ c, l[i - n]? = some (SV.o c)
  | [], n, i => by simp [modesFrom]
  | .d x :: r, n, i => by
    rw [modesFrom, mem_modes]
    constructor
    · rintro ⟨h, c, e⟩
      refine ⟨by omega, c, ?_⟩
      rw [show i - n = (i - (n + 1)) + 1 by omega, List.getElem?_cons_succ]; exact e
    · rintro ⟨h, c, e⟩
      by_cases z : i = n
      · subst z; rw [Nat.sub_self] at e; cases e
      · refine ⟨by omega, c, ?_⟩
        rw [show i - n = (i - (n + 1)) + 1 by omega, List.getElem?_cons_succ] at e; exact e
  | .o d :: r, n, i => by
    rw [modesFrom, List.mem_cons, mem_modes]
    constructor
    · rintro (rfl | ⟨h, c, e⟩)
      · exact ⟨Nat.le_refl _, d, by rw [Nat.sub_self]; rfl⟩
      · refine ⟨by omega, c, ?_⟩
        rw [show i - n = (i - (n + 1)) + 1 by omega, List.getElem?_cons_succ]; exact e
    · rintro ⟨h, c, e⟩
      by_cases z : i = n
      · exact .inl z
      · refine .inr ⟨by omega, c, ?_⟩
        rw [show i - n = (i - (n + 1)) + 1 by omega, List.getElem?_cons_succ] at e; exact e
def refOf (vs : List V) (i : Nat) : Option (Nat × Addr) := match vs[i]? with
  | some (V.ref p) => some (i, p)
  | _ => none
def ioOf (vs : List V) (ioI : List Nat) : List (Nat × Addr) := ioI.filterMap (refOf vs)
theorem mem_ioOf {vs : List V} {ioI : List Nat} {x : Nat × Addr} : x ∈ ioOf vs ioI ↔ x.1 ∈ ioI ∧ vs[x.1]? = some (V.ref x.2) := by
  unfold ioOf
  rw [List.mem_filterMap]
  constructor
  · rintro ⟨i, hi, e⟩
    unfold refOf at e
    split at e
    · rename_i p h
      cases e
      exact ⟨hi, h⟩
    · cases e
  · rintro ⟨h1, h2⟩
    exact ⟨x.1, h1, by unfold refOf; rw [h2]⟩
theorem ioOf_fst {vs : List V} : ∀ {ioI : List Nat}, (∀ i ∈ ioI, ∃ p, vs[i]? = some (V.ref p)) → (ioOf vs ioI).map (·.1) = ioI
  | [], _ => rfl
  | i :: r, h => by
    obtain ⟨p, e⟩ := h i List.mem_cons_self
    have ih := ioOf_fst (vs := vs) (ioI := r) fun j hj => h j (List.mem_cons_of_mem _ hj)
    have e' : refOf vs i = some (i, p) := by unfold refOf; rw [e]
    unfold ioOf at ih ⊢
    rw [List.filterMap_cons, e']
    simp only [List.map_cons, ih]
def base0 (G H : Hp) (vs : List V) (args : List SV) (ioI : List Nat) : Base := ⟨H, G, fun a => ∃ (i : Nat) (p : Addr) (c : OC), vs[i]? = some (V.ref p) ∧ args[i]? = some (SV.o c) ∧ Fp H p c a, ioOf vs ioI⟩
def FK (Z : Zx) (B : Base) (vs : List V) (Q : VK) (E : XK) (o : FOut) : Prop := match o with
  | .ret r cs => ∀ v G' H', Rep Z B G' H' (vs.map some) (cs.map some) → RD Z B G' H' (vs.map some) (cs.map some) v r → Q v H'
  | .ex x cs => ∀ cls d G' H', Rep Z B G' H' (vs.map some) (cs.map some) → ExD Z G' H' cls d x → E cls d H'
  | .bad => False
/-- the promise of a def whose mirror is m -/
def spD (Z : Zx) (ioI : List Nat) (m : FM) : Sp := fun vs H Q E => ∃ G args, modesFrom 0 args = ioI ∧ Rep Z (base0 G H vs args ioI) G H (vs.map some) (args.map some) ∧ FK Z (base0 G H vs args ioI) vs Q E (m args)
structure DefOk (P : Program) (w : World) (Z : Zx) (base : Heap) (name : Str) (k : Nat) (ps : List Str) (ioI : List Nat) (m : FM) : Prop where
  ex : ∃ f fd, FnOk P w Z.K Z.mg base (L2N.CX P w) k f fd ps (spD Z ioI m) ∧ Z.mg name = some (.ref f) ∧ PySem.W.keepIn Z.K (.ref f) = true ∧ Binds Z.K fd ps []

/-! ### arguments -/
inductive Arg where
  | d (x : D) | s (i : Nat)
def slotsA : List Arg → List Nat
  | [] => []
  | .d _ :: r => slotsA r
  | .s i :: r => i :: slotsA r
def Arg.look (ρ : Rho) : Arg → Option SV
  | .d x => some (.d x)
  | .s i => match ρ[i]? with
    | some (some (.o c)) => some (.o c)
    | _ => none
def lookA (ρ : Rho) : List Arg → Option (List SV)
  | [] => some []
  | a :: r => match a.look ρ with
    | some x => (lookA ρ r).map (x :: ·)
    | none => none
def back : List Arg → List SV → Rho → Rho
  | .s i :: as, c :: cs, ρ => back as cs (ρ.set i (some c))
  | .d _ :: as, _ :: cs, ρ => back as cs ρ
  | _, _, ρ => ρ
def ArgOk (Z : Zx) (G : Hp) (σ : L2.St) (v : V) : Arg → Prop
  | .d x => Den Z G v x
  | .s i => σ[i]? = some (some v)
inductive ArgsOk (Z : Zx) (G : Hp) (σ : L2.St) : List V → List Arg → Prop where
  | nil : ArgsOk Z G σ [] []
  | cons {v : V} {vs : List V} {a : Arg} {as : List Arg} : ArgOk Z G σ v a → ArgsOk Z G σ vs as → ArgsOk Z G σ (v :: vs) (a :: as)
abbrev PA' (Z : Zx) : Base → Hp → Hp → L2.St → Rho → List V → List Arg → Prop := fun _ G _ σ _ vs as => ArgsOk Z G σ vs as
def EAs (X : Cx) (Z : Zx) (io : List Nat) (W : WX) (es : List Expr) (f : M (List Arg)) : Prop := PA X es (tG Z io W (PA' Z) f)
section
variable {X : Cx} {Z : Zx} {io : List Nat} {W : WX} {G H : Hp} {e : Expr} {es : List Expr} {fa : M D} {fs : M (List Arg)} {σ : L2.St} {ρ : Rho}
theorem ArgOk.mono {G' : Hp} (s : Same G G') {v : V} {a : Arg} (h : ArgOk Z G σ v a) : ArgOk Z G' σ v a := by
  cases a with
  | d x => exact Den.mono s h
  | s i => exact h
theorem ArgsOk.get : ∀ {vs : List V} {as : List Arg} {k : Nat} {a : Arg}, ArgsOk Z G σ vs as → as[k]? = some a → ∃ v, vs[k]? = some v ∧ ArgOk Z G σ v a
  | _, _, _, _, .nil, e => by simp at e
  | _, _, 0, _, .cons h _, e => by simp at e; subst e; exact ⟨_, rfl, h⟩
  | _, _, k + 1, _, .cons _ t, e => by
    obtain ⟨v, h1, h2⟩ := ArgsOk.get (k := k) t (by simpa using e)
    exact ⟨v, by simpa using h1, h2⟩
theorem ArgsOk.length : ∀ {vs : List V} {as : List Arg}, ArgsOk Z G σ vs as → vs.length = as.length
  | _, _, .nil => rfl
  | _, _, .cons _ t => by simp only [List.length_cons, ArgsOk.length t]
def aNil : M (List Arg) := fun ρ => .ok [] ρ
def aD (f : M D) (r : M (List Arg)) : M (List Arg) := fun ρ => (f ρ).bind fun d ρ1 => (r ρ1).bind fun as ρ2 => .ok (.d d :: as) ρ2
def aS (i : Nat) (r : M (List Arg)) : M (List Arg) := fun ρ => match ρ[i]? with
  | some (some (.o _)) => (r ρ).bind fun as ρ2 => .ok (.s i :: as) ρ2
  | _ => .bad
theorem ea_nil : EAs X Z io W [] aNil := PA.imp pa_nil fun σ H Q ⟨B, G, ρ, hio, R, k⟩ => k.ok R (Same.refl _) ArgsOk.nil
theorem ea_d (ha : EV X Z io W e fa) (hr : EAs X Z io W es fs) (hs : starEach (e :: es) X.env = (false, eval e X.env) :: starEach es X.env := by rfl) : EAs X Z io W (e :: es) (aD fa fs) := by
  refine PA.imp (pa_cons ha hr hs) fun σ H Q ⟨B, G, ρ, hio, R, k⟩ => ?_
  refine Kont.bind k hio R fun v H1 G1 ρ1 d R1 s1 p1 k1 => ?_
  refine Kont.bind k1 hio R1 fun vs H2 G2 ρ2 ds R2 s2 p2 k2 => ?_
  exact k2.ok (v := v :: vs) R2 (Same.refl _) (ArgsOk.cons (a := .d d) (Den.mono s2 p1) p2)
theorem ea_s (i : Nat) {x : Str} {p : Pos} (hr : EAs X Z io W es fs) (hN : X.N[i]? = some x := by rfl) (hv : Vis X.env.scope x := by first | exact Or.inl rfl | exact Or.inr (Or.inl rfl) | exact Or.inr (Or.inr rfl)) (hs : starEach (.Name x p :: es) X.env = (false, eval (.Name x p) X.env) :: starEach es X.env := by rfl) (hd : (x == ("__debug__" : Str)) = false := by decide)
    (hcd : (x == ("__classdict__" : Str)) = false := by decide) : EAs X Z io W (.Name x p :: es) (aS i fs) := by
  refine PA.imp (pa_cons (pe_var hN hv hd hcd) hr hs) fun σ H Q ⟨B, G, ρ, hio, R, k⟩ => ?_
  unfold aS at k
  split at k
  · rename_i c e
    obtain ⟨p, h1, _⟩ := R.own i c e
    refine ⟨_, h1, ?_⟩
    refine Kont.bind k hio R fun vs H2 G2 ρ2 ds R2 s2 p2 k2 => ?_
    exact k2.ok (v := .ref p :: vs) R2 (Same.refl _) (ArgsOk.cons (a := .s i) (show ArgOk Z G2 σ (.ref p) (.s i) from h1) p2)
  · exact k.elim
theorem lookA_len {ρ : Rho} : ∀ {as : List Arg} {svs : List SV}, lookA ρ as = some svs → svs.length = as.length
  | [], svs, e => by cases e; rfl
  | a :: r, svs, e => by
    simp only [lookA] at e
    split at e
    · simp only [Option.map_eq_some_iff] at e
      obtain ⟨xs, h, rfl⟩ := e
      simp only [List.length_cons, lookA_len h]
    · cases e
theorem lookA_get {ρ : Rho} : ∀ {as : List Arg} {svs : List SV} {k : Nat} {sv : SV}, lookA ρ as = some svs → svs[k]? = some sv → ∃ a, as[k]? = some a ∧ a.look ρ = some sv
  | [], svs, k, sv, e, h => by cases e; simp at h
  | a :: r, svs, k, sv, e, h => by
    simp only [lookA] at e
    split at e
    · rename_i x hx
      simp only [Option.map_eq_some_iff] at e
      obtain ⟨xs, h', rfl⟩ := e
      cases k with
      | zero => simp at h; subst h; exact ⟨a, rfl, hx⟩
      | succ k =>
        obtain ⟨b, h1, h2⟩ := lookA_get (k := k) h' (by simpa using h)
        exact ⟨b, by simpa using h1, h2⟩
    · cases e
theorem look_o {ρ : Rho} {a : Arg} {c : OC} (h : a.look ρ = some (.o c)) : ∃ i, a = .s i ∧ ρ[i]? = some (some (SV.o c)) := by
  cases a with
  | d x => simp [Arg.look] at h
  | s i =>
    simp only [Arg.look] at h
    split at h
    · rename_i c' e
      cases h
      exact ⟨i, rfl, e⟩
    · cases h
theorem look_d {ρ : Rho} {a : Arg} {x : D} (h : a.look ρ = some (.d x)) : a = .d x := by
  cases a with
  | d y => simp [Arg.look] at h; rw [h]
  | s i =>
    simp only [Arg.look] at h
    split at h <;> cases h
theorem slots_mem : ∀ {as : List Arg} {k i : Nat}, as[k]? = some (Arg.s i) → i ∈ slotsA as
  | [], k, i, e => by simp at e
  | a :: r, 0, i, e => by simp at e; subst e; exact List.mem_cons_self
  | .d x :: r, k + 1, i, e => slots_mem (k := k) (as := r) (by simpa using e)
  | .s j :: r, k + 1, i, e => List.mem_cons_of_mem _ (slots_mem (k := k) (as := r) (by simpa using e))
theorem slots_inj : ∀ {as : List Arg} {k l i : Nat}, (slotsA as).Nodup → as[k]? = some (Arg.s i) → as[l]? = some (Arg.s i) → k = l
  | [], k, l, i, _, e, _ => by simp at e
  | .d x :: r, 0, l, i, _, e, _ => by simp at e
  | .d x :: r, k + 1, 0, i, _, _, e => by simp at e
  | .d x :: r, k + 1, l + 1, i, n, e, e' => by rw [slots_inj (k := k) (l := l) (as := r) n (by simpa using e) (by simpa using e')]
  | .s j :: r, 0, 0, i, _, _, _ => rfl
  | .s j :: r, 0, l + 1, i, n, e, e' => by
    simp at e; subst e
    exact absurd (slots_mem (k := l) (as := r) (by simpa using e')) (List.nodup_cons.mp n).1
  | .s j :: r, k + 1, 0, i, n, e, e' => by
    simp at e'; subst e'
    exact absurd (slots_mem (k := k) (as := r) (by simpa using e)) (List.nodup_cons.mp n).1
  | .s j :: r, k + 1, l + 1, i, n, e, e' => by rw [slots_inj (k := k) (l := l) (as := r) (List.nodup_cons.mp n).2 (by simpa using e) (by simpa using e')]
theorem back_len : ∀ (as : List Arg) (cs : List SV) (ρ : Rho), (back as cs ρ).length = ρ.length
  | [], _, ρ => by simp [back]
  | .s i :: as, [], ρ => by simp [back]
  | .d x :: as, [], ρ => by simp [back]
  | .s i :: as, c :: cs, ρ => by rw [back, back_len, List.length_set]
  | .d x :: as, c :: cs, ρ => by rw [back, back_len]
theorem back_not : ∀ {as : List Arg} {cs : List SV} {ρ : Rho} {j : Nat}, j ∉ slotsA as → (back as cs ρ)[j]? = ρ[j]?
  | [], _, ρ, j, _ => by simp [back]
  | .s i :: as, [], ρ, j, _ => by simp [back]
  | .d x :: as, [], ρ, j, _ => by simp [back]
  | .s i :: as, c :: cs, ρ, j, h => by
    have h1 : j ≠ i := fun z => h (by rw [z]; exact List.mem_cons_self)
    have h2 : j ∉ slotsA as := fun z => h (List.mem_cons_of_mem _ z)
    rw [back, back_not h2, List.getElem?_set_ne (Ne.symm h1)]
  | .d x :: as, c :: cs, ρ, j, h => by rw [back]; exact back_not (as := as) h
theorem back_at : ∀ {as : List Arg} {cs : List SV} {ρ : Rho} {j k : Nat} {c : SV}, (slotsA as).Nodup → as[k]? = some (Arg.s j) → cs[k]? = some c → j < ρ.length → (back as cs ρ)[j]? = some (some c)
  | [], _, ρ, j, k, c, _, e, _, _ => by simp at e
  | a :: as, [], ρ, j, k, c, _, _, e, _ => by simp at e
  | .d x :: as, c0 :: cs, ρ, j, 0, c, n, e, _, _ => by simp at e
  | .d x :: as, c0 :: cs, ρ, j, k + 1, c, n, e, e', h => by
    rw [back]; exact back_at (k := k) (as := as) n (by simpa using e) (by simpa using e') h
  | .s i :: as, c0 :: cs, ρ, j, 0, c, n, e, e', h => by
    simp at e e'
    subst e e'
    rw [back, back_not (List.nodup_cons.mp n).1, List.getElem?_set_self h]
  | .s i :: as, c0 :: cs, ρ, j, k + 1, c, n, e, e', h => by
    rw [back]; exact back_at (k := k) (as := as) (List.nodup_cons.mp n).2 (by simpa using e) (by simpa using e') (by rw [List.length_set]; exact h)
theorem mem_slots : ∀ {as : List Arg} {i : Nat}, i ∈ slotsA as → ∃ k : Nat, as[k]? = some (Arg.s i)
  | .d x :: r, i, h => by
    obtain ⟨k, e⟩ := mem_slots (as := r) h
    exact ⟨k + 1, by simpa using e⟩
  | .s j :: r, i, h => by
    rcases List.mem_cons.mp h with rfl | h
    · exact ⟨0, rfl⟩
    · obtain ⟨k, e⟩ := mem_slots (as := r) h
      exact ⟨k + 1, by simpa using e⟩

theorem map_some_get {α : Type} {l : List α} {i : Nat} {x : α} : (l.map some)[i]? = some (some x) ↔ l[i]? = some x := by
  rw [List.getElem?_map]
  cases l[i]? <;> simp

/-- the caller's state, as the callee gets it -/
theorem call_enter {B : Base} {as : List Arg} {svs : List SV} {vs : List V} {ioI : List Nat} (R : Rep Z B G H σ ρ) (ha : ArgsOk Z G σ vs as) (nd : (slotsA as).Nodup) (hl : lookA ρ as = some svs) (hm : modesFrom 0 svs = ioI) : Rep Z (base0 G H vs svs ioI) G H (vs.map some) (svs.map some) := by
  have len : vs.length = svs.length := by rw [ArgsOk.length ha, lookA_len hl]
  have ownAt : ∀ {k : Nat} {c : OC}, svs[k]? = some (SV.o c) → ∃ (j : Nat) (p : Addr), as[k]? = some (Arg.s j) ∧ ρ[j]? = some (some (SV.o c)) ∧ σ[j]? = some (some (V.ref p)) ∧ vs[k]? = some (V.ref p) ∧ OwnAt Z G H p c ∧ ∀ a, Fp H p c a → G a = none := fun {k c} e => by
    obtain ⟨a, h1, h2⟩ := lookA_get hl e
    obtain ⟨j, rfl, h3⟩ := look_o h2
    obtain ⟨p, h4, h5, h6⟩ := R.own j c h3
    obtain ⟨v, h7, h8⟩ := ha.get h1
    have h8 : σ[j]? = some (some v) := h8
    rw [h4] at h8
    injection h8 with h8; injection h8 with h8
    subst h8
    exact ⟨j, p, h1, h3, h4, h7, h5, fun a f => (h6 a f).1⟩
  refine ⟨R.sub, fun a o e _ _ => (show H a = some o from e), fun a h => .inl (show G a ≠ none from h), Same.refl _, R.ntb, by rw [List.length_map, List.length_map]; exact len, fun i x e => ?_, fun i c e => ?_, fun i j p q c d a h1 h2 h3 h4 hne f g => ?_, fun x hx => ?_, R.tab⟩
  · rw [map_some_get] at e
    obtain ⟨a, h1, h2⟩ := lookA_get hl e
    have := look_d h2
    subst this
    obtain ⟨v, h7, h8⟩ := ha.get h1
    exact ⟨v, by rw [map_some_get]; exact h7, h8⟩
  · rw [map_some_get] at e
    obtain ⟨j, p, h1, h3, h4, h7, h5, h6⟩ := ownAt e
    exact ⟨p, by rw [map_some_get]; exact h7, h5, fun a f => ⟨h6 a f, .inl ⟨i, p, c, h7, e, f⟩⟩⟩
  · rw [map_some_get] at h1 h2 h3 h4
    obtain ⟨j1, p1, a1, a2, a3, a4, _⟩ := ownAt h1
    obtain ⟨j2, p2, b1, b2, b3, b4, _⟩ := ownAt h2
    rw [a4] at h3; rw [b4] at h4
    cases h3; cases h4
    have : j1 ≠ j2 := fun z => by subst z; exact hne (slots_inj nd a1 b1)
    exact R.apart j1 j2 p q c d a a2 b2 a3 b3 this f g
  · obtain ⟨h1, h2⟩ := mem_ioOf.mp (show x ∈ ioOf vs ioI from hx)
    rw [← hm, mem_modes] at h1
    obtain ⟨_, c, e⟩ := h1
    rw [Nat.sub_zero] at e
    exact ⟨by rw [map_some_get]; exact h2, c, by rw [map_some_get]; exact e⟩
/-- .. and as it stands behind the call -/
theorem call_leave {B : Base} {as : List Arg} {svs cs : List SV} {vs : List V} {ioI : List Nat} {G' H' : Hp} (R : Rep Z B G H σ ρ) (ha : ArgsOk Z G σ vs as) (nd : (slotsA as).Nodup) (hl : lookA ρ as = some svs) (hm : modesFrom 0 svs = ioI)
    (R' : Rep Z (base0 G H vs svs ioI) G' H' (vs.map some) (cs.map some)) :
    Rep Z B G' H' σ (back as cs ρ) ∧ Same G G' ∧ ∀ v r, RD Z (base0 G H vs svs ioI) G' H' (vs.map some) (cs.map some) v r → RD Z B G' H' σ (back as cs ρ) v r := by
  have len : vs.length = svs.length := by rw [ArgsOk.length ha, lookA_len hl]
  have lcs : vs.length = cs.length := by have := R'.len; rwa [List.length_map, List.length_map] at this
  have ownAt : ∀ {k : Nat} {c : OC}, svs[k]? = some (SV.o c) → ∃ (j : Nat) (p : Addr), as[k]? = some (Arg.s j) ∧ ρ[j]? = some (some (SV.o c)) ∧ σ[j]? = some (some (V.ref p)) ∧ vs[k]? = some (V.ref p) := fun {k c} e => by
    obtain ⟨a, h1, h2⟩ := lookA_get hl e
    obtain ⟨j, rfl, h3⟩ := look_o h2
    obtain ⟨p, h4, h5, h6⟩ := R.own j c h3
    obtain ⟨v, h7, h8⟩ := ha.get h1
    have h8 : σ[j]? = some (some v) := h8
    rw [h4] at h8
    injection h8 with h8; injection h8 with h8
    subst h8
    exact ⟨j, p, h1, h3, h4, h7⟩
  -- a slot among the arguments
  have slotAt : ∀ {k j : Nat}, as[k]? = some (Arg.s j) → ∃ c p c', svs[k]? = some (SV.o c) ∧ ρ[j]? = some (some (SV.o c)) ∧ σ[j]? = some (some (V.ref p)) ∧ vs[k]? = some (V.ref p) ∧ cs[k]? = some (SV.o c') := fun {k j} e => by
    have hk : k < svs.length := by rw [lookA_len hl]; exact (List.getElem?_eq_some_iff.mp e).1
    obtain ⟨sv, hsv⟩ : ∃ sv, svs[k]? = some sv := ⟨svs[k], by simp [hk]⟩
    obtain ⟨a, h1, h2⟩ := lookA_get hl hsv
    rw [e] at h1; cases h1
    cases sv with
    | d x => have := look_d h2; cases this
    | o c =>
      obtain ⟨j', p, h3, h4, h5, h6⟩ := ownAt hsv
      rw [e] at h3; cases h3
      have hin : (k, p) ∈ (base0 G H vs svs ioI).io := mem_ioOf.mpr ⟨by show k ∈ ioI; rw [← hm, mem_modes]; exact ⟨Nat.zero_le _, c, by rw [Nat.sub_zero]; exact hsv⟩, h6⟩
      obtain ⟨_, c', h7⟩ := R'.io _ hin
      rw [map_some_get] at h7
      exact ⟨c, p, c', hsv, h4, h5, h6, h7⟩
  -- what the callee may change: of an argument slot
  have inS : ∀ {a : Addr}, (base0 G H vs svs ioI).S a → ∃ (k j : Nat) (p : Addr) (c : OC), as[k]? = some (Arg.s j) ∧ ρ[j]? = some (some (SV.o c)) ∧ σ[j]? = some (some (V.ref p)) ∧ Fp H p c a := fun {a} ⟨k, p, c, h1, h2, h3⟩ => by
    obtain ⟨j, p', h4, h5, h6, h7⟩ := ownAt h2
    rw [h1] at h7; cases h7
    exact ⟨k, j, p, c, h4, h5, h6, h3⟩
  have okS : ∀ {a : Addr}, (base0 G H vs svs ioI).S a → B.S a ∨ B.New a := fun {a} h => by
    obtain ⟨k, j, p, c, _, h5, h6, f⟩ := inS h
    exact ((R.ownP h5 h6).2 a f).2
  have okN : ∀ {a : Addr}, ((base0 G H vs svs ioI).S a ∨ (base0 G H vs svs ioI).New a) → B.S a ∨ B.New a := fun {a} h => h.elim okS fun y => R.free1 y
  -- a slot that is no argument
  have far : ∀ {j : Nat} {c : OC} {p : Addr}, j ∉ slotsA as → ρ[j]? = some (some (SV.o c)) → σ[j]? = some (some (V.ref p)) → ∀ a, Fp H p c a → H' a = H a ∧ ¬ (base0 G H vs svs ioI).S a := fun {j c p} hj h1 h2 a f => by
    have nS : ¬ (base0 G H vs svs ioI).S a := fun h => by
      obtain ⟨k, j', p', c', h4, h5, h6, f'⟩ := inS h
      have : j ≠ j' := fun z => by subst z; exact hj (slots_mem h4)
      exact R.apart j j' p p' c c' a h1 h5 h2 h6 this f f'
    obtain ⟨o, ho, hn⟩ := (R.ownP h1 h2).1.dom f
    refine ⟨?_, nS⟩
    rw [R'.fr a o ho nS hn, ho]
  have sGG : Same G G' := R'.ext
  have lt : ∀ {j : Nat} {y : Option SV}, ρ[j]? = some y → j < ρ.length := fun e => (List.getElem?_eq_some_iff.mp e).1
  -- reading the new slots
  have rd : ∀ {j : Nat} {c : OC}, (back as cs ρ)[j]? = some (some (SV.o c)) → (j ∉ slotsA as ∧ ρ[j]? = some (some (SV.o c))) ∨ ∃ (k : Nat) (p : Addr), as[k]? = some (Arg.s j) ∧ cs[k]? = some (SV.o c) ∧ vs[k]? = some (V.ref p) ∧ σ[j]? = some (some (V.ref p)) := fun {j c} e => by
    by_cases hj : j ∈ slotsA as
    · obtain ⟨k, hk⟩ := mem_slots hj
      obtain ⟨c0, p, c', h1, h2, h3, h4, h5⟩ := slotAt hk
      rw [back_at nd hk h5 (lt h2)] at e
      cases e
      exact .inr ⟨k, p, hk, h5, h4, h3⟩
    · rw [back_not hj] at e
      exact .inl ⟨hj, e⟩
  have newFree : ∀ {a : Addr}, G a = none → ¬ (base0 G H vs svs ioI).New a → ¬ (base0 G H vs svs ioI).S a → G' a = none := fun {a} h1 h2 h3 => by
    cases z : G' a with
    | none => rfl
    | some u =>
      rcases R'.new a (by rw [z]; simp) with y | y | y
      · exact absurd h1 y
      · exact absurd y h2
      · exact absurd y h3
  refine ⟨⟨R'.sub, fun a o e s t => ?_, fun a h => ?_, fun a o e => sGG a o (R.ext a o e), R'.ntb, by rw [back_len]; exact R.len, fun j x e => ?_, fun j c e => ?_, fun i j p q c d a h1 h2 h3 h4 hne f g => ?_, fun x hx => ?_, R'.tab⟩, sGG, fun v r hr => ?_⟩
  · refine R'.fr a o (R.fr a o e s t) (fun h => ?_) t
    rcases okS h with y | y
    · exact s y
    · exact y o e t
  · rcases R'.new a h with y | y | y
    · exact R.new a y
    · exact .inr ((R.free1 y).elim .inr .inl)
    · exact .inr ((okS y).elim .inr .inl)
  · by_cases hj : j ∈ slotsA as
    · obtain ⟨k, hk⟩ := mem_slots hj
      obtain ⟨c0, p, c', h1, h2, h3, h4, h5⟩ := slotAt hk
      rw [back_at nd hk h5 (lt h2)] at e
      cases e
    · rw [back_not hj] at e
      obtain ⟨v, h1, h2⟩ := R.frz j x e
      exact ⟨v, h1, h2.mono sGG⟩
  · rcases rd e with ⟨hj, e'⟩ | ⟨k, p, h1, h2, h3, h4⟩
    · obtain ⟨p, h1, h2, h3⟩ := R.own j c e'
      have kk : ∀ a, Fp H p c a → H' a = H a := fun a f => (far hj e' h1 a f).1
      refine ⟨p, h1, (h2.keep kk).monoG sGG, fun a f => ?_⟩
      have f' := (Fp.keep kk).mp f
      obtain ⟨o, ho, hn⟩ := h2.dom f'
      exact ⟨newFree (h3 a f').1 (fun z => z o ho hn) (far hj e' h1 a f').2, (h3 a f').2⟩
    · obtain ⟨p', h5, h6, h7⟩ := R'.own k c (by rw [map_some_get]; exact h2)
      rw [map_some_get] at h5
      rw [h3] at h5; cases h5
      exact ⟨p, h4, h6, fun a f => ⟨(h7 a f).1, okN (h7 a f).2⟩⟩
  · rcases rd h1 with ⟨hi, e1⟩ | ⟨k, p', a1, a2, a3, a4⟩
    · have kk : ∀ a, Fp H p c a → H' a = H a := fun a f => (far hi e1 h3 a f).1
      have f' := (Fp.keep kk).mp f
      rcases rd h2 with ⟨hj, e2⟩ | ⟨l, q', b1, b2, b3, b4⟩
      · have kk2 : ∀ a, Fp H q d a → H' a = H a := fun a f => (far hj e2 h4 a f).1
        exact R.apart i j p q c d a e1 e2 h3 h4 hne f' ((Fp.keep kk2).mp g)
      · rw [h4] at b4; cases b4
        obtain ⟨q', h5, h6, h7⟩ := R'.own l d (by rw [map_some_get]; exact b2)
        rw [map_some_get] at h5
        rw [b3] at h5; cases h5
        rcases (h7 a g).2 with y | y
        · exact (far hi e1 h3 a f').2 y
        · obtain ⟨o, ho, hn⟩ := (R.ownP e1 h3).1.dom f'
          exact y o ho hn
    · rw [h3] at a4; cases a4
      obtain ⟨p', h5, h6, h7⟩ := R'.own k c (by rw [map_some_get]; exact a2)
      rw [map_some_get] at h5
      rw [a3] at h5; cases h5
      rcases rd h2 with ⟨hj, e2⟩ | ⟨l, q', b1, b2, b3, b4⟩
      · have kk2 : ∀ a, Fp H q d a → H' a = H a := fun a f => (far hj e2 h4 a f).1
        have g' := (Fp.keep kk2).mp g
        rcases (h7 a f).2 with y | y
        · exact (far hj e2 h4 a g').2 y
        · obtain ⟨o, ho, hn⟩ := (R.ownP e2 h4).1.dom g'
          exact y o ho hn
      · rw [h4] at b4; cases b4
        have : k ≠ l := fun z => by subst z; rw [a1] at b1; cases b1; exact hne rfl
        exact R'.apart k l p q c d a (by rw [map_some_get]; exact a2) (by rw [map_some_get]; exact b2) (by rw [map_some_get]; exact a3) (by rw [map_some_get]; exact b3) this f g
  · obtain ⟨a1, c, a2⟩ := R.io x hx
    refine ⟨a1, ?_⟩
    by_cases hj : x.1 ∈ slotsA as
    · obtain ⟨k, hk⟩ := mem_slots hj
      obtain ⟨c0, p, c', h1, h2, h3, h4, h5⟩ := slotAt hk
      exact ⟨c', back_at nd hk h5 (lt h2)⟩
    · exact ⟨c, by rw [back_not hj]; exact a2⟩
  · cases r with
    | d x => exact hr
    | o c =>
      obtain ⟨p, rfl, h1, h2⟩ := hr
      refine ⟨p, rfl, h1, fun a f => ⟨(h2 a f).1, okN (h2 a f).2.1, fun j q d k1 k2 g => ?_⟩⟩
      rcases rd k1 with ⟨hj, e2⟩ | ⟨l, q', b1, b2, b3, b4⟩
      · have kk2 : ∀ a, Fp H q d a → H' a = H a := fun a f => (far hj e2 k2 a f).1
        have g' := (Fp.keep kk2).mp g
        rcases (h2 a f).2.1 with y | y
        · exact (far hj e2 k2 a g').2 y
        · obtain ⟨o, ho, hn⟩ := (R.ownP e2 k2).1.dom g'
          exact y o ho hn
      · rw [k2] at b4; cases b4
        exact (h2 a f).2.2 l q d (by rw [map_some_get]; exact b2) (by rw [map_some_get]; exact b3) g
theorem passN (tk : L2N.Takes X W) (σ : L2.St) : PassesAt (L2N.CX X.prog X.w) X σ (WE W σ) := fun _ _ _ e s' I c => tk e s' (L2N.XE.of_call I (fun _ _ _ h => h) c)
/-- f(..) -/
def mCall (ioI : List Nat) (m : FM) (f : M (List Arg)) : M SV := fun ρ => (f ρ).bind fun as ρ1 => if (slotsA as).Nodup then match lookA ρ1 as with
    | some svs => if modesFrom 0 svs = ioI then match m svs with
        | .ret r cs => .ok r (back as cs ρ1)
        | .ex x cs => .ex x (back as cs ρ1)
        | .bad => .bad
      else .bad
    | none => .bad
  else .bad
theorem er_call {name : Str} {j k : Nat} {ps : List Str} {ioI : List Nat} {m : FM} {p pos : Pos} (F : DefOk X.prog X.w Z X.base name j ps ioI m) (hr : Room k X.A) (tk : L2N.Takes X W) (ha : EAs X Z io W (e :: es) fs) (hjk : j ≤ k := by decide) (hZ : Z.K = X.K ∧ Z.mg = X.mg := by exact ⟨rfl, rfl⟩) (hg : Gl X name := by rfl)
    (hdb : (name == ("__debug__" : Str)) = false := by decide) (he : starEach (e :: es) X.env = (false, eval e X.env) :: starEach es X.env := by rfl) (hpl : (backTo pos (starEach es X.env)).any (·.1) = false := by rfl) :
    ER X Z io W (.Call (.Name name p) (e :: es) [] pos) (mCall ioI m fs) := by
  obtain ⟨f, fd, h1, h2, h3, h4⟩ := F.ex
  obtain ⟨K, mg, T, ea⟩ := Z
  obtain ⟨e1, e2⟩ := hZ
  dsimp only at e1 e2 h1 h2 h3 h4
  subst e1 e2
  refine PE.imp (pe_callS (E := WE W) h1 (hr.mono hjk) hg h2 h3 h4 (fun σ => passN tk σ) ha hdb he hpl) fun σ H Q ⟨B, G, ρ, hio, R, k⟩ => ?_
  refine Kont.bind k hio R fun vs H1 G1 ρ1 as R1 s1 p1 k1 => ?_
  split at k1
  · rename_i nd
    split at k1
    · rename_i svs hl
      split at k1
      · rename_i hm
        have R2 := call_enter R1 p1 nd hl hm
        refine ⟨G1, svs, hm, R2, ?_⟩
        cases ho : m svs with
        | ret r cs =>
          rw [ho] at k1
          intro v G' H' R' hr'
          obtain ⟨R3, s3, t3⟩ := call_leave R1 p1 nd hl hm R'
          exact k1.ok R3 s3 (t3 v r hr')
        | ex x cs =>
          rw [ho] at k1
          intro cls d G' H' R' hx
          obtain ⟨R3, s3, t3⟩ := call_leave R1 p1 nd hl hm R'
          exact k1 cls d G' H' R3 s3 hx
        | bad => rw [ho] at k1; exact k1.elim
      · exact k1.elim
    · exact k1.elim
  · exact k1.elim
end
end DL
/-! DL6: statements, blocks, loops, a def's body. -/
namespace DL
open PySem PySem.Spec PyProof.Rows L2

inductive SO where
  | nx (ρ : Rho) | rt (r : SV) (ρ : Rho) | bk (ρ : Rho) | ct (ρ : Rho) | ex (x : Ex) (ρ : Rho) | bad
abbrev SM := Rho → SO
section
variable (Z : Zx) (io : List Nat) (W : WX)
def SKont (B : Base) (G : Hp) (E : Ends) : SO → Prop
  | .nx ρ' => ∀ σ' G' H', Rep Z B G' H' σ' ρ' → Same G G' → E.nx σ' H'
  | .rt r ρ' => ∀ v σ' G' H', Rep Z B G' H' σ' ρ' → Same G G' → RD Z B G' H' σ' ρ' v r → E.rt v H'
  | .bk ρ' => ∀ σ' G' H', Rep Z B G' H' σ' ρ' → Same G G' → E.bk σ' H'
  | .ct ρ' => ∀ σ' G' H', Rep Z B G' H' σ' ρ' → Same G G' → E.ct σ' H'
  | .ex x ρ' => ∀ cls d σ' G' H', Rep Z B G' H' σ' ρ' → Same G G' → ExD Z G' H' cls d x → W cls d σ' H'
  | .bad => False
def tS (g : SM) : TS := fun E σ H => ∃ B G ρ, B.io.map (·.1) = io ∧ Rep Z B G H σ ρ ∧ SKont Z W B G E (g ρ)
end
def SS (X : Cx) (Z : Zx) (io : List Nat) (W : WX) (st : Stmt) (g : SM) : Prop := PS X st (tS Z io W g)
def SB (X : Cx) (Z : Zx) (io : List Nat) (W : WX) (sts : List Stmt) (g : SM) : Prop := PSs X sts (tS Z io W g)
theorem PS.imp {X : Cx} {st : Stmt} {t t' : TS} (h : PS X st t) (i : ∀ E σ H, t' E σ H → t E σ H) : PS X st t' := ⟨fun pins s σ H E I q => h.run pins s σ H E I (i E σ H q)⟩
theorem PSs.imp {X : Cx} {st : List Stmt} {t t' : TS} (h : PSs X st t) (i : ∀ E σ H, t' E σ H → t E σ H) : PSs X st t' := ⟨fun pins s σ H E I q => h.run pins s σ H E I (i E σ H q)⟩
/-- an expression's outcome, then a statement's -/
def Out.thenS {α : Type} (o : Out α) (k : α → Rho → SO) : SO := match o with
  | .ok a ρ => k a ρ
  | .ex x ρ => .ex x ρ
  | .bad => .bad
section
variable {X : Cx} {Z : Zx} {io : List Nat} {W : WX} {B : Base} {G H : Hp} {σ : L2.St} {ρ : Rho} {E : Ends} {pos : Pos} {e : Expr} {st : Stmt} {rest : List Stmt} {g h : SM}
theorem SKont.grow {G' : Hp} {o : SO} (h : SKont Z W B G E o) (s : Same G G') : SKont Z W B G' E o := by
  cases o with
  | nx ρ => exact fun σ' G1 H1 R t => h σ' G1 H1 R (s.trans t)
  | rt r ρ => exact fun v σ' G1 H1 R t p => h v σ' G1 H1 R (s.trans t) p
  | bk ρ => exact fun σ' G1 H1 R t => h σ' G1 H1 R (s.trans t)
  | ct ρ => exact fun σ' G1 H1 R t => h σ' G1 H1 R (s.trans t)
  | ex x ρ => exact fun cls d σ' G1 H1 R t p => h cls d σ' G1 H1 R (s.trans t) p
  | bad => exact h
/-- the expression's reading, from the statement's -/
theorem SKont.expr {α β : Type} {P : Base → Hp → Hp → L2.St → Rho → β → α → Prop} {f : M α} {k : α → Rho → SO} (q : SKont Z W B G E ((f ρ).thenS k)) (hio : B.io.map (·.1) = io) (R : Rep Z B G H σ ρ)
    {Q : β → Hp → Prop} (t : ∀ v H1 G1 ρ1 r, Rep Z B G1 H1 σ ρ1 → Same G G1 → P B G1 H1 σ ρ1 v r → SKont Z W B G1 E (k r ρ1) → Q v H1) : tG Z io W P f σ H Q := by
  refine ⟨B, G, ρ, hio, R, ?_⟩
  unfold Kont Out.Sat
  cases ho : f ρ with
  | ok a ρ1 =>
    rw [ho] at q
    exact fun v G' H' R' s p => t v H' G' ρ1 a R' s p (SKont.grow (show SKont Z W B G E (k a ρ1) from q) s)
  | ex x ρ1 =>
    rw [ho] at q
    exact fun cls d G' H' R' s hx => q cls d σ G' H' R' s hx
  | bad =>
    rw [ho] at q
    exact q.elim

/-! ### blocks and small statements -/
def sSkip : SM := fun ρ => .nx ρ
def sSeq (g h : SM) : SM := fun ρ => match g ρ with
  | .nx ρ1 => h ρ1
  | o => o
theorem sb_nil : SB X Z io W [] sSkip := PSs.imp pss_nil fun E σ H ⟨B, G, ρ, hio, R, k⟩ => k σ G H R (Same.refl _)
theorem seq_core (E : Ends) (σ : L2.St) (H : Hp) (q : tS Z io W (sSeq g h) E σ H) : tSeq (tS Z io W g) (tS Z io W h) E σ H := by
  obtain ⟨B, G, ρ, hio, R, k⟩ := q
  refine ⟨B, G, ρ, hio, R, ?_⟩
  unfold sSeq at k
  cases ho : g ρ with
  | nx ρ1 =>
    rw [ho] at k
    exact fun σ' G' H' R' s => ⟨B, G', ρ1, hio, R', SKont.grow (show SKont Z W B G E (h ρ1) from k) s⟩
  | rt r ρ1 => rw [ho] at k; exact k
  | bk ρ1 => rw [ho] at k; exact k
  | ct ρ1 => rw [ho] at k; exact k
  | ex x ρ1 => rw [ho] at k; exact k
  | bad => rw [ho] at k; exact k
theorem sb_cons (h1 : SS X Z io W st g) (h2 : SB X Z io W rest h) : SB X Z io W (st :: rest) (sSeq g h) := PSs.imp (pss_cons h1 h2) seq_core
theorem sb_one (h1 : SS X Z io W st g) : SB X Z io W [st] g := PSs.imp (pss_one h1) fun _ _ _ q => q
theorem ss_pass : SS X Z io W (.Pass pos) sSkip := PS.imp ps_pass fun E σ H ⟨B, G, ρ, hio, R, k⟩ => k σ G H R (Same.refl _)
theorem ss_break : SS X Z io W (.Break pos) (fun ρ => .bk ρ) := PS.imp ps_break fun E σ H ⟨B, G, ρ, hio, R, k⟩ => k σ G H R (Same.refl _)
theorem ss_continue : SS X Z io W (.Continue pos) (fun ρ => .ct ρ) := PS.imp ps_continue fun E σ H ⟨B, G, ρ, hio, R, k⟩ => k σ G H R (Same.refl _)
def sRet (f : M SV) : SM := fun ρ => (f ρ).thenS fun r ρ1 => .rt r ρ1
theorem ss_ret {f : M SV} (he : ER X Z io W e f) : SS X Z io W (.Return (some e) pos) (sRet f) := PS.imp (ps_ret he) fun E σ H ⟨B, G, ρ, hio, R, k⟩ =>
  SKont.expr k hio R fun v H1 G1 ρ1 r R1 s1 p1 k1 => k1 v σ G1 H1 R1 (Same.refl _) p1
theorem ss_retN : SS X Z io W (.Return none pos) (fun ρ => .rt (.d .non) ρ) := PS.imp ps_retN fun E σ H ⟨B, G, ρ, hio, R, k⟩ => k .non σ G H R (Same.refl _) .non
def sExpr {α : Type} (f : M α) : SM := fun ρ => (f ρ).thenS fun _ ρ1 => .nx ρ1
theorem ss_expr {f : M SV} (he : ER X Z io W e f) (hs : swapsWith e none pos.line X.env = pure false := by rfl) : SS X Z io W (.Expr e pos) (sExpr f) := PS.imp (ps_expr he hs) fun E σ H ⟨B, G, ρ, hio, R, k⟩ =>
  SKont.expr k hio R fun v H1 G1 ρ1 r R1 s1 p1 k1 => k1 σ G1 H1 R1 (Same.refl _)
def sIf (t : M Bool) (g h : SM) : SM := fun ρ => (t ρ).thenS fun b ρ1 => if b = true then g ρ1 else h ρ1
theorem ss_if {c : Expr} {a b : List Stmt} {t : M Bool} (hc : ET X Z io W c t) (ha : SB X Z io W a g) (hb : SB X Z io W b h) : SS X Z io W (.If c a b pos) (sIf t g h) := PS.imp (ps_if hc ha hb) fun E σ H ⟨B, G, ρ, hio, R, k⟩ => by
  refine SKont.expr k hio R fun v H1 G1 ρ1 r R1 s1 p1 k1 => ?_
  cases p1
  split
  · rename_i z
    rw [if_pos z] at k1
    exact ⟨B, G1, ρ1, hio, R1, k1⟩
  · rename_i z
    rw [if_neg z] at k1
    exact ⟨B, G1, ρ1, hio, R1, k1⟩
/-- name = e -/
def sSet (i : Nat) (f : M SV) : SM := fun ρ => (f ρ).thenS fun r ρ1 => .nx (ρ1.set i (some r))
theorem ss_set (i : Nat) {x : Str} {f : M SV} {pos' : Pos} (he : ER X Z io W e f) (hN : X.N.Nodup) (hi : X.N[i]? = some x := by rfl) (hx : Loc X.env.scope x := by first | exact Or.inl rfl | exact Or.inr rfl) (hio : i ∉ io := by decide) (hs : swapsWith e (some (.Name x pos')) pos.line X.env = pure false := by rfl)
    (hf : X.fn x = true ∨ X.env.scope.names.lookup x = some .local := by first | exact .inl rfl | exact .inr rfl | assumption) : SS X Z io W (.Assign [.Name x pos'] e pos) (sSet i f) := PS.imp (ps_set hN hi hx he hs hf) fun E σ H ⟨B, G, ρ, hb, R, k⟩ =>
  SKont.expr k hb R fun v H1 G1 ρ1 r R1 s1 p1 k1 => k1 _ G1 H1 (R1.set p1 (by rw [hb]; exact hio)) (Same.refl _)
/-- a, b = x, y (two plain local names) -/
def sPar (i j : Nat) (f : M (List D)) : SM := fun ρ => (f ρ).thenS fun ds ρ1 => match ds with
  | [d, e] => .nx ((ρ1.set i (some (.d d))).set j (some (.d e)))
  | _ => .bad
theorem ss_par (i j : Nat) {x y : Str} {a b : Expr} {f : M (List D)} {px py pt : Pos} {kt k2 pt2} (ha : EL X Z io W [a, b] f) (hN : X.N.Nodup) (hc : X.calm = true := by rfl) (hi : X.N[i]? = some x := by rfl) (hj : X.N[j]? = some y := by rfl) (hij : i ≠ j := by decide)
    (hx : X.env.scope.names.lookup x = some .local := by rfl) (hy : X.env.scope.names.lookup y = some .local := by rfl) (hio : i ∉ io ∧ j ∉ io := by decide)
    (hw : swappedStores [.Tuple [.Name x px, .Name y py] kt pt] (.Tuple [a, b] k2 pt2) X.env = pure (some [x, y]) := by rfl)
    (hs : swapsWithSole [.Tuple [.Name x px, .Name y py] kt pt] (.Tuple [a, b] k2 pt2) pos.line X.env = pure false := by rfl) :
    SS X Z io W (.Assign [.Tuple [.Name x px, .Name y py] kt pt] (.Tuple [a, b] k2 pt2) pos) (sPar i j f) := PS.imp (ps_par hc hN hi hj hij hx hy ha hw hs) fun E σ H ⟨B, G, ρ, hb, R, k⟩ => by
  refine SKont.expr k hb R fun vs H1 G1 ρ1 ds R1 s1 p1 k1 => ?_
  split at k1
  · rename_i d e
    obtain ⟨v, w, rfl, d1, d2⟩ := denL2 p1
    refine ⟨v, w, rfl, k1 _ G1 H1 ?_ (Same.refl _)⟩
    have R2 := R1.set (i := i) (v := v) (r := .d d) d1 (by rw [hb]; exact hio.1)
    exact R2.set (i := j) (v := w) (r := .d e) d2 (by rw [hb]; exact hio.2)
  · exact k1.elim

/-! ### targets -/
abbrev GTm := D → Rho → Option Rho
/-- the reading of a target that is given d -/
def Off (sl : List Nat) (σ σ' : L2.St) : Prop := σ'.length = σ.length ∧ ∀ j, j ∉ sl → σ'[j]? = σ[j]?
theorem Off.trans {sl sl' : List Nat} {σ σ' σ'' : L2.St} (a : Off sl σ σ') (b : Off sl' σ' σ'') : Off (sl ++ sl') σ σ'' := ⟨b.1.trans a.1, fun j h => (b.2 j fun z => h (List.mem_append_right _ z)).trans (a.2 j fun z => h (List.mem_append_left _ z))⟩
/-- sl: the slots that are stored -/
def tT (Z : Zx) (io : List Nat) (sl : List Nat) (g : GTm) : TG := fun v σ H Q => ∃ B G ρ d ρ', B.io.map (·.1) = io ∧ Rep Z B G H σ ρ ∧ Den Z G v d ∧ g d ρ = some ρ' ∧ ∀ σ', Off sl σ σ' → Rep Z B G H σ' ρ' → Q σ' H
def GT (X : Cx) (Z : Zx) (io : List Nat) (tg : Expr) (sl : List Nat) (g : GTm) : Prop := PG X tg (tT Z io sl g)
theorem PG.imp {X : Cx} {tg : Expr} {t t' : TG} (h : PG X tg t) (i : ∀ v σ H Q, t' v σ H Q → t v σ H Q) : PG X tg t' := ⟨fun pins s σ H v u Q I r q => h.run pins s σ H v u Q I r (i v σ H Q q)⟩
def gN (i : Nat) : GTm := fun d ρ => some (ρ.set i (some (.d d)))
theorem gt_name (i : Nat) {x : Str} (hN : X.N.Nodup) (hi : X.N[i]? = some x := by rfl) (hx : Loc X.env.scope x := by first | exact Or.inl rfl | exact Or.inr rfl) (hio : i ∉ io := by decide) (hf : X.fn x = true ∨ X.env.scope.names.lookup x = some .local := by first | exact .inl rfl | exact .inr rfl | assumption) :
    GT X Z io (.Name x pos) [i] (gN i) := PG.imp (pg_name hN hi hx hf) fun v σ H Q ⟨B, G, ρ, d, ρ', hb, R, hd, hg, k⟩ => by
  cases hg
  exact k _ ⟨List.length_set, fun j h => List.getElem?_set_ne (fun z => h (by rw [z]; exact List.mem_singleton_self _))⟩ (R.set (r := .d d) hd (by rw [hb]; exact hio))
abbrev GTs := List D → Rho → Option Rho
def tTs (Z : Zx) (io : List Nat) (sl : List Nat) (g : GTs) : TGs := fun vs σ H Q => ∃ B G ρ ds ρ', B.io.map (·.1) = io ∧ Rep Z B G H σ ρ ∧ DenL Z G vs ds ∧ g ds ρ = some ρ' ∧ ∀ σ', Off sl σ σ' → Rep Z B G H σ' ρ' → Q σ' H
def GTL (X : Cx) (Z : Zx) (io : List Nat) (ts : List Expr) (sl : List Nat) (g : GTs) : Prop := PGs X ts (tTs Z io sl g)
theorem PGs.imp {X : Cx} {ts : List Expr} {t t' : TGs} (h : PGs X ts t) (i : ∀ v σ H Q, t' v σ H Q → t v σ H Q) : PGs X ts t' := ⟨fun pins s σ H v u Q I r q => h.run pins s σ H v u Q I r (i v σ H Q q)⟩
def gsNil : GTs := fun ds ρ => match ds with
  | [] => some ρ
  | _ => none
def gsCons (g : GTm) (r : GTs) : GTs := fun ds ρ => match ds with
  | d :: ds => (g d ρ).bind fun ρ1 => r ds ρ1
  | [] => none
theorem gs_nil : GTL X Z io [] [] gsNil := PGs.imp pgs_nil fun vs σ H Q ⟨B, G, ρ, ds, ρ', hb, R, hd, hg, k⟩ => by
  unfold gsNil at hg
  split at hg
  · cases hg
    cases hd
    exact ⟨rfl, k _ ⟨rfl, fun _ _ => rfl⟩ R⟩
  · cases hg
theorem gs_cons {t : Expr} {ts : List Expr} {g : GTm} {r : GTs} {sl sl' : List Nat} (h1 : GT X Z io t sl g) (h2 : GTL X Z io ts sl' r) (hs : (assignEach (t :: ts) X.env).map (·.2) = assign t X.env :: (assignEach ts X.env).map (·.2) := by rfl) : GTL X Z io (t :: ts) (sl ++ sl') (gsCons g r) :=
  PGs.imp (pgs_cons h1 h2 hs) fun vs σ H Q ⟨B, G, ρ, ds, ρ', hb, R, hd, hg, k⟩ => by
  unfold gsCons at hg
  split at hg
  · simp only [Option.bind_eq_some_iff] at hg
    obtain ⟨ρ1, e1, e2⟩ := hg
    cases hd with
    | cons h t => exact ⟨_, _, rfl, B, G, ρ, _, ρ1, hb, R, h, e1, fun σ' o1 R' => ⟨B, G, ρ1, _, ρ', hb, R', t, e2, fun σ'' o2 R'' => k σ'' (o1.trans o2) R''⟩⟩
  · cases hg
def gTupl (n : Nat) (g : GTs) : GTm := fun d ρ => match d with
  | .tup ds => if ds.length = n then g ds ρ else none
  | _ => none
theorem gt_tup {ts : List Expr} {k0 n : Nat} {g : GTs} {sl : List Nat} (h : GTL X Z io ts sl g) (hc : X.calm = true := by rfl) (hn : (assignEach ts X.env).length = n := by rfl) (hst : (assignEach ts X.env).findIdx? (·.1) = none := by rfl) (hK : X.K = Z.K := by rfl) : GT X Z io (.Tuple ts k0 pos) sl (gTupl n g) :=
  PG.imp (pg_tup hc h hn hst) fun v σ H Q ⟨B, G, ρ, d, ρ', hb, R, hd, hg, k⟩ => by
  unfold gTupl at hg
  split at hg
  · rename_i ds
    split at hg
    · rename_i z
      cases hd with
      | tup h t => exact ⟨_, _, rfl, by rw [hK]; exact sqT_mono R.sub h, by rw [DenL.length t]; exact z, B, G, ρ, ds, ρ', hb, R, t, hg, k⟩
    · cases hg
  · cases hg
/-- target = e (data) -/
def sAsg (g : GTm) (f : M D) : SM := fun ρ => (f ρ).thenS fun d ρ1 => match g d ρ1 with
  | some ρ2 => .nx ρ2
  | none => .bad
theorem ss_asg {tg : Expr} {f : M D} {g : GTm} {sl : List Nat} (he : EV X Z io W e f) (hg : GT X Z io tg sl g) (hs : swapsWithSole [tg] e pos.line X.env = pure false := by rfl) (hw : swappedStores [tg] e X.env = pure none := by rfl)
    (h1 : (assignEach [tg] X.env).map (·.2) = [assign tg X.env] := by rfl) : SS X Z io W (.Assign [tg] e pos) (sAsg g f) := PS.imp (ps_asg he hg hs hw h1) fun E σ H ⟨B, G, ρ, hb, R, k⟩ => by
  refine SKont.expr k hb R fun v H1 G1 ρ1 d R1 s1 p1 k1 => ?_
  split at k1
  · rename_i ρ2 hg2
    exact ⟨B, G1, ρ1, d, ρ2, hb, R1, p1, hg2, fun σ' _ R' => k1 σ' G1 H1 R' (Same.refl _)⟩
  · exact k1.elim

/-! ### a slot's own list changed -/
/-- x.append(e) -/
def sApp (i : Nat) (f : M D) : SM := fun ρ => match ρ[i]? with
  | some (some (.o (.lst _))) => (f ρ).thenS fun d ρ1 => match ρ1[i]? with
    | some (some (.o (.lst xs))) => if xs.length < sizeLine then .nx (ρ1.set i (some (.o (.lst (xs ++ [d]))))) else .bad
    | _ => .bad
  | _ => .bad
theorem slot_eq {σ : L2.St} {i : Nat} {p q : Addr} (h : σ[i]? = some (some (V.ref p))) (h' : σ[i]? = some (some (V.ref q))) : q = p := by
  rw [h] at h'; injection h' with h'; injection h' with h'; injection h' with h'; exact h'.symm
theorem ss_app (i : Nat) {x : Str} {b : Expr} {fb : M D} {p apos cpos : Pos} (hb : EV X Z io W b fb) (hN : X.N[i]? = some x := by rfl) (hv : Vis X.env.scope x := by first | exact Or.inl rfl | exact Or.inr (Or.inl rfl) | exact Or.inr (Or.inr rfl)) (hd : (x == ("__debug__" : Str)) = false := by decide)
    (hcd : (x == ("__classdict__" : Str)) = false := by decide) (hbase : attributeBase (.Name x p) "append" X.env (eval (.Name x p) X.env) = eval (.Name x p) X.env := by rfl)
    (hfew : ((backTo cpos (starEach (b :: []) X.env)).all (fun x => !x.1) && (backToKw cpos (keywordEach [] X.env)).all (fun x => x.1.isSome)
      && decide ((b :: []).length + ([] : List Keyword).length + (if ([] : List Keyword).isEmpty then 0 else 1) < 30)) = true := by rfl)
    (hline : (apos.endLine == cpos.line) = true := by rfl) (hs : starEach (b :: []) X.env = (false, eval b X.env) :: starEach [] X.env := by rfl) (hplain : (backTo cpos (starEach [] X.env)).any (·.1) = false := by rfl)
    (hsw : swapsWith (.Call (.Attribute (.Name x p) "append" apos) [b] [] cpos) none pos.line X.env = pure false := by rfl) :
    SS X Z io W (.Expr (.Call (.Attribute (.Name x p) "append" apos) [b] [] cpos) pos) (sApp i fb) := by
  refine PS.imp (ps_expr (pe_bm PySem.F.plainAttrs_list PySem.F.slot_list_append PySem.F.type_list_append mt_append (pe_var hN hv hd hcd) (pa_cons hb pa_nil hs) hbase hfew hline hs hplain) hsw) fun E σ H ⟨B, G, ρ, hio, R, k⟩ => ?_
  unfold sApp at k
  split at k
  · rename_i xs0 e0
    obtain ⟨p0, vs0, h0, hl0, _⟩ := R.slotL e0
    refine ⟨_, h0, .inl ⟨rfl, _, SqL.of hl0⟩, ?_⟩
    refine SKont.expr k hio R fun v H2 G2 ρ2 d R2 s2 p2 k2 => ?_
    split at k2
    · rename_i xs e2
      split at k2
      · rename_i z
        obtain ⟨p1, vs, h1, h2, h3⟩ := R2.slotL e2
        cases slot_eq h0 h1
        refine ⟨_, vs, v, rfl, rfl, h2, by rw [DenL.length h3]; exact z, ?_⟩
        exact k2 σ G2 _ (R2.write e2 h1 h2 ⟨_, upd_same, DenL.append h3 (.one p2)⟩) (Same.refl _)
      · exact k2.elim
    · exact k2.elim
  · exact k.elim
/-- x[k] = e -/
def sPut (i : Nat) (f fk : M D) : SM := fun ρ => (f ρ).thenS fun d ρ1 => match ρ1[i]? with
  | some (some (.o (.lst _))) => (fk ρ1).thenS fun k ρ2 => match ρ2[i]?, k with
    | some (some (.o (.lst xs))), .int j => match ixN xs.length j with
      | some n => .nx (ρ2.set i (some (.o (.lst (xs.set n d)))))
      | none => .bad
    | _, _ => .bad
  | _ => .bad
theorem ss_put (i : Nat) {x : Str} {b : Expr} {fb f : M D} {p tpos : Pos} (he : EV X Z io W e f) (hb : EV X Z io W b fb) (hN : X.N[i]? = some x := by rfl) (hv : Vis X.env.scope x := by first | exact Or.inl rfl | exact Or.inr (Or.inl rfl) | exact Or.inr (Or.inr rfl)) (hd : (x == ("__debug__" : Str)) = false := by decide)
    (hcd : (x == ("__classdict__" : Str)) = false := by decide) (ha : ∀ v, assign (.Subscript (.Name x p) b tpos) X.env v = (do
      let ov ← holding [v] (eval (.Name x p) X.env)
      let iv ← holding [v, ov] (eval b X.env)
      standAt tpos
      holding [v, ov, iv] (setItem ov iv v)
      release [v, ov, iv] []) := by intro _; rfl) (hs : swapsWithSole [.Subscript (.Name x p) b tpos] e pos.line X.env = pure false := by rfl) (hw : swappedStores [.Subscript (.Name x p) b tpos] e X.env = pure none := by rfl)
    (h1 : (assignEach [.Subscript (.Name x p) b tpos] X.env).map (·.2) = [assign (.Subscript (.Name x p) b tpos) X.env] := by rfl) : SS X Z io W (.Assign [.Subscript (.Name x p) b tpos] e pos) (sPut i f fb) := by
  refine PS.imp (ps_asg he (pg_sub (pe_var hN hv hd hcd) hb set_list ha) hs hw h1) fun E σ H ⟨B, G, ρ, hio, R, k⟩ => ?_
  refine SKont.expr k hio R fun v H1 G1 ρ1 d R1 s1 p1 k1 => ?_
  split at k1
  · rename_i xs0 e0
    obtain ⟨p0, vs0, h0, hl0, _⟩ := R1.slotL e0
    refine ⟨_, h0, ?_⟩
    refine SKont.expr k1 hio R1 fun w H2 G2 ρ2 kd R2 s2 p2 k2 => ?_
    split at k2
    · rename_i xs j e2
      split at k2
      · rename_i n hn
        obtain ⟨p1', vs, h1', h2, h3⟩ := R2.slotL e2
        cases slot_eq h0 h1'
        cases p2
        refine ⟨_, vs, j, n, rfl, rfl, h2, by rw [DenL.length h3]; exact hn, ?_⟩
        exact k2 σ G2 _ (R2.write e2 h1' h2 ⟨_, upd_same, DenL.set (Den.mono s2 p1) n h3⟩) (Same.refl _)
      · exact k2.elim
    · exact k2.elim
  · exact k1.elim

/-! ### while -/
def sWh (c : M Bool) (b : SM) : Nat → SM
  | 0, _ => .bad
  | n + 1, ρ => (c ρ).thenS fun t ρ1 => if t = true then match b ρ1 with
      | .nx ρ2 => sWh c b n ρ2
      | .ct ρ2 => sWh c b n ρ2
      | .bk ρ2 => .nx ρ2
      | o => o
    else .nx ρ1
theorem while_core {c : M Bool} {b : SM} (E : Ends) (B : Base) (hio : B.io.map (·.1) = io) : ∀ (n : Nat) (G : Hp) (ρ : Rho) (σ : L2.St) (H : Hp), Rep Z B G H σ ρ → SKont Z W B G E (sWh c b n ρ) → tWhile (tG Z io W PB c) (tS Z io W b) E σ H := by
  intro n G ρ σ H R k
  refine ⟨fun n σ H => ∃ G ρ, Rep Z B G H σ ρ ∧ SKont Z W B G E (sWh c b n ρ), ⟨n, G, ρ, R, k⟩, ?_⟩
  rintro m σ1 H1 ⟨G1, ρ1, R1, k1⟩
  cases m with
  | zero => exact k1.elim
  | succ m =>
    refine SKont.expr k1 hio R1 fun t H2 G2 ρ2 t' R2 s2 p2 k2 => ?_
    cases p2
    split
    · rename_i z
      rw [if_pos z] at k2
      refine ⟨fun σ' H' => ∃ G ρ, Rep Z B G H' σ' ρ ∧ SKont Z W B G E (sWh c b m ρ), fun σ' H' ⟨G', ρ', R', k'⟩ => ⟨m, Nat.lt_succ_self _, G', ρ', R', k'⟩, B, G2, ρ2, hio, R2, ?_⟩
      cases ho : b ρ2 with
      | nx ρ3 => rw [ho] at k2; exact fun σ' G' H' R' s => ⟨G', ρ3, R', SKont.grow k2 s⟩
      | ct ρ3 => rw [ho] at k2; exact fun σ' G' H' R' s => ⟨G', ρ3, R', SKont.grow k2 s⟩
      | bk ρ3 => rw [ho] at k2; exact k2
      | rt r ρ3 => rw [ho] at k2; exact k2
      | ex x ρ3 => rw [ho] at k2; exact k2
      | bad => rw [ho] at k2; exact k2
    · rename_i z
      rw [if_neg z] at k2
      exact k2 σ1 G2 H2 R2 (Same.refl _)
/-- what some number of turns gives -/
noncomputable def sWhile (c : M Bool) (b : SM) : SM := fun ρ => open Classical in if h : ∃ n, sWh c b n ρ ≠ .bad then sWh c b (Classical.choose h) ρ else .bad
theorem sWh_mono {c : M Bool} {b : SM} : ∀ {n : Nat} {ρ : Rho}, sWh c b n ρ ≠ .bad → ∀ {m : Nat}, n ≤ m → sWh c b m ρ = sWh c b n ρ
  | 0, ρ, h, m, _ => absurd rfl h
  | n + 1, ρ, h, 0, hm => by omega
  | n + 1, ρ, h, m + 1, hm => by
    simp only [sWh] at h ⊢
    cases hc : c ρ with
    | ok t ρ1 =>
      rw [hc] at h
      simp only [Out.thenS] at h ⊢
      split
      · rename_i z
        rw [if_pos z] at h
        cases hb : b ρ1 with
        | nx ρ2 => rw [hb] at h; exact sWh_mono h (by omega)
        | ct ρ2 => rw [hb] at h; exact sWh_mono h (by omega)
        | _ => rfl
      · rfl
    | ex x ρ1 => rfl
    | bad => rfl
theorem sWhile_eq {c : M Bool} {b : SM} {n : Nat} {ρ : Rho} {o : SO} (h : sWh c b n ρ = o) (hb : o ≠ .bad) : sWhile c b ρ = o := by
  have ex : ∃ n, sWh c b n ρ ≠ .bad := ⟨n, by rw [h]; exact hb⟩
  unfold sWhile
  rw [dif_pos ex]
  have h1 := Classical.choose_spec ex
  rcases Nat.le_total n (Classical.choose ex) with z | z
  · rw [sWh_mono (by rw [h]; exact hb) z, h]
  · rw [← sWh_mono h1 z, h]
theorem ss_while {c : Expr} {body : List Stmt} {t : M Bool} (hp : PassesOwn (model X.prog X.w) X.A X.env X.xe) (hc : ET X Z io W c t) (hb : SB X Z io W body g) : SS X Z io W (.While c body [] pos) (sWhile t g) := PS.imp (ps_while hp hc hb) fun E σ H ⟨B, G, ρ, hio, R, k⟩ => by
  unfold sWhile at k
  split at k
  · exact while_core E B hio _ G ρ σ H R k
  · exact k.elim

/-! ### for -/
/-- the iterator gives ds, one after another -/
def WalkD (Z : Zx) (J : It) (ds : List D) (G : Hp) : Prop := ∀ G1 H1, Same G G1 → Same G1 H1 → ∀ i, (i = ds.length → J.stop i H1) ∧ ∀ d, ds[i]? = some d → J.go i H1 ∧ ∀ x H2, J.yld i H1 x H2 → ∃ G2, Grow G1 H1 G2 H2 ∧ Den Z G2 x d
abbrev PIt (Z : Zx) : Base → Hp → Hp → L2.St → Rho → It → List D → Prop := fun _ G _ _ _ J ds => WalkD Z J ds G
def EI (X : Cx) (Z : Zx) (io : List Nat) (W : WX) (tg iter : Expr) (f : M (List D)) : Prop := PI X tg iter (tG Z io W (PIt Z) f)
def sForL (g : GTm) (b : SM) : List D → SM
  | [], ρ => .nx ρ
  | d :: ds, ρ => match g d ρ with
    | none => .bad
    | some ρ1 => match b ρ1 with
      | .nx ρ2 => sForL g b ds ρ2
      | .ct ρ2 => sForL g b ds ρ2
      | .bk ρ2 => .nx ρ2
      | o => o
def sFor (it : M (List D)) (g : GTm) (b : SM) : SM := fun ρ => (it ρ).thenS fun ds ρ1 => sForL g b ds ρ1
theorem WalkD.mono {J : It} {ds : List D} {G G' : Hp} (w : WalkD Z J ds G) (s : Same G G') : WalkD Z J ds G' := fun G1 H1 s1 s2 => w G1 H1 (s.trans s1) s2
theorem for_core {gt : GTm} {b : SM} {sl : List Nat} (E : Ends) (B : Base) (hio : B.io.map (·.1) = io) {J : It} {ds : List D} {G : Hp} (w : WalkD Z J ds G) {ρ : Rho} {σ : L2.St} {H : Hp} (R : Rep Z B G H σ ρ) (k : SKont Z W B G E (sForL gt b ds ρ)) :
    ∃ Wm : Nat → Nat → L2.St → Hp → Prop, (∃ m, Wm 0 m σ H) ∧ ∀ i m σ H, Wm i m σ H → (J.stop i H ∧ E.nx σ H) ∨ (J.go i H ∧ ∃ N : L2.St → Hp → Prop, (∀ σ' H', N σ' H' → ∃ m', m' < m ∧ Wm (i + 1) m' σ' H') ∧
      ∀ x H', J.yld i H x H' → tT Z io sl gt x σ H' fun σ2 H2 => tS Z io W b { E with nx := N, ct := N, bk := E.nx } σ2 H2) := by
  refine ⟨fun i m σ H => m = ds.length - i ∧ i ≤ ds.length ∧ ∃ G1 ρ, Same G G1 ∧ Rep Z B G1 H σ ρ ∧ SKont Z W B G1 E (sForL gt b (ds.drop i) ρ), ⟨ds.length, by simp, Nat.zero_le _, G, ρ, Same.refl _, R, k⟩, ?_⟩
  rintro i m σ1 H1 ⟨rfl, hi, G1, ρ1, s1, R1, k1⟩
  obtain ⟨w1, w2⟩ := w G1 H1 s1 R1.sub i
  by_cases hlt : i < ds.length
  · obtain ⟨d, hd⟩ : ∃ d, ds[i]? = some d := ⟨ds[i], by simp [hlt]⟩
    obtain ⟨go, yl⟩ := w2 d hd
    have ed : ds.drop i = d :: ds.drop (i + 1) := by
      have := List.drop_eq_getElem_cons hlt
      rw [this]
      congr 1
      rw [List.getElem?_eq_getElem hlt] at hd
      exact Option.some.inj hd
    rw [ed] at k1
    simp only [sForL] at k1
    refine .inr ⟨go, fun σ' H' => ∃ G2 ρ, Same G G2 ∧ Rep Z B G2 H' σ' ρ ∧ SKont Z W B G2 E (sForL gt b (ds.drop (i + 1)) ρ), fun σ' H' p => ⟨ds.length - (i + 1), by omega, rfl, by omega, p⟩, fun x H' y => ?_⟩
    obtain ⟨G2, gr, dx⟩ := yl x H' y
    obtain ⟨R2, s2⟩ := R1.grow gr
    split at k1
    · exact k1.elim
    · rename_i ρ2 hg
      refine ⟨B, G2, ρ1, d, ρ2, hio, R2, dx, hg, fun σ2 _ R3 => ⟨B, G2, ρ2, hio, R3, ?_⟩⟩
      have k1 := SKont.grow k1 s2
      cases ho : b ρ2 with
      | nx ρ3 => rw [ho] at k1; exact fun σ' G' H' R' s => ⟨G', ρ3, s1.trans (s2.trans s), R', SKont.grow k1 s⟩
      | ct ρ3 => rw [ho] at k1; exact fun σ' G' H' R' s => ⟨G', ρ3, s1.trans (s2.trans s), R', SKont.grow k1 s⟩
      | bk ρ3 => rw [ho] at k1; exact k1
      | rt r ρ3 => rw [ho] at k1; exact k1
      | ex x ρ3 => rw [ho] at k1; exact k1
      | bad => rw [ho] at k1; exact k1
  · have e : i = ds.length := by omega
    subst e
    rw [List.drop_length] at k1
    exact .inl ⟨w1 rfl, k1 σ1 G1 H1 R1 (Same.refl _)⟩
theorem ss_for {tg iter : Expr} {body : List Stmt} {it : M (List D)} {gt : GTm} {sl : List Nat} (hp : PassesOwn (model X.prog X.w) X.A X.env X.xe) (hi : EI X Z io W tg iter it) (hg : GT X Z io tg sl gt) (hb : SB X Z io W body g) (hc : X.calm = true := by rfl)
    (hs : ∀ x, foldedSetIterable iter X.env x = pure x := by intro _; rfl) : SS X Z io W (.For tg iter body [] pos) (sFor it gt g) := PS.imp (ps_for hp hc hi hg hb hs) fun E σ H ⟨B, G, ρ, hio, R, k⟩ => by
  refine SKont.expr k hio R fun J H1 G1 ρ1 ds R1 s1 p1 k1 => ?_
  exact for_core E B hio p1 R1 k1

/-! ### what is walked -/
theorem walk_seq {J : It} {vs : List V} {ds : List D} {G : Hp} (hd : DenL Z G vs ds) {Gd : Hp → Prop} (w : L2.Walk J vs.length Gd (YAt vs)) (hG : ∀ G1 H1, Same G G1 → Same G1 H1 → Gd H1) : WalkD Z J ds G := by
  intro G1 H1 s1 s2 i
  have g := hG G1 H1 s1 s2
  refine ⟨fun e => by rw [e, ← DenL.length hd]; exact w.stops H1 g, fun d hd' => ?_⟩
  obtain ⟨v, h1, h2⟩ := hd.get hd'
  have hi : i < vs.length := (List.getElem?_eq_some_iff.mp h1).1
  refine ⟨w.goes i H1 hi g, fun x H2 y => ?_⟩
  obtain ⟨e1, e2⟩ := w.yields i H1 x H2 hi g y
  subst e1
  rw [h1] at e2; cases e2
  exact ⟨G1, Grow.refl, h2.mono s1⟩
/-- a list, a tuple -/
def mSeq (f : M D) : M (List D) := fun ρ => (f ρ).bind fun d ρ1 => match d with
  | .tup xs => .ok xs ρ1
  | .lst xs => .ok xs ρ1
  | .scr xs => .ok xs ρ1
  | _ => .bad
theorem ei_list {tg l : Expr} {f : M D} (hl : EV X Z io W l f) (hK : X.K = Z.K := by rfl) : EI X Z io W tg l (mSeq f) := by
  refine ⟨fun pins s σ H R I h => ?_⟩
  obtain ⟨B, G, ρ, hio, Rp, k⟩ := h
  -- what is known behind the expression
  have q : tG Z io W (PV Z) f σ H (fun v H1 => (∃ G1 ρ1 a vs ds, v = .ref a ∧ Rep Z B G1 H1 σ ρ1 ∧ G1 a = some (.lst vs) ∧ DenL Z G1 vs ds ∧ ∀ J, WalkD Z J ds G1 → R J H1) ∨
      (∃ G1 ρ1 a vs ds, v = .ref a ∧ Rep Z B G1 H1 σ ρ1 ∧ SqL Z.K G1 a vs ∧ DenL Z G1 vs ds ∧ ∀ J, WalkD Z J ds G1 → R J H1) ∨
      ∃ G1 ρ1 a vs ds, v = .ref a ∧ Rep Z B G1 H1 σ ρ1 ∧ SqT Z.K G1 a vs ∧ DenL Z G1 vs ds ∧ ∀ J, WalkD Z J ds G1 → R J H1) := by
    refine Kont.bind k hio Rp fun v H1 G1 ρ1 d R1 s1 p1 k1 => ?_
    cases p1 <;> simp only at k1 <;> try (exact k1.elim)
    · exact .inr (.inr ⟨G1, ρ1, _, _, _, rfl, R1, ‹_›, ‹_›, fun J w => k1.ok R1 (Same.refl _) w⟩)
    · exact .inl ⟨G1, ρ1, _, _, _, rfl, R1, ‹_›, ‹_›, fun J w => k1.ok R1 (Same.refl _) w⟩
    · exact .inr (.inl ⟨G1, ρ1, _, _, _, rfl, R1, ‹_›, ‹_›, fun J w => k1.ok R1 (Same.refl _) w⟩)
  refine thn (hl.run pins s σ H _ I q) fun v s1 ⟨x, H1, I1, r1, q1⟩ => ?_
  have fin : ∀ {a : Addr} {vs : List V} {G1 : Hp} {ρ1 : Rho} {ds : List D}, SqL X.K H1 a vs → (∀ G2 H2, Same G1 G2 → Same G2 H2 → SqL X.K H2 a vs) → DenL Z G1 vs ds → (∀ J, WalkD Z J ds G1 → R J H1) → v = .ref a →
      wpAny (model X.prog X.w) X.A (pyIter v) (PIE X pins σ tg R) X.xe s1 := fun {a vs G1 ρ1 ds} hq hG hd hR e => by
    subst e
    obtain ⟨its, rv, p, hz⟩ := I1.list hq
    refine wpAny_pyIter_list p.isList ?_
    refine ⟨s1.heap.objs.size, [s1.heap.objs.size], _, _, H1, rfl, I1.kept (t' := s1.toks) fun b o e => Heap.get?_push_of_some _ e, turn_list a _, ⟨_, Heap.get?_push_size _ rfl, rfl, rfl⟩, fun b hb => ?_, hR _ (walk_seq hd (walk_list (K := X.K) (a := a)) hG)⟩
    have e : b = s1.heap.objs.size := by simpa using hb
    subst e
    exact I1.fpOk (Nat.le_refl _) (I1.hok.fresh (Nat.le_refl _))
  rcases q1 with ⟨G1, ρ1, a, vs, ds, rfl, R1, h1, h2, h3⟩ | ⟨G1, ρ1, a, vs, ds, rfl, R1, h1, h2, h3⟩ | ⟨G1, ρ1, a, vs, ds, rfl, R1, h1, h2, h3⟩
  · cases r1
    exact fin (ρ1 := ρ1) (SqL.of (R1.sub _ _ h1)) (fun G2 H2 s1 s2 => SqL.of (s2 _ _ (s1 _ _ h1))) h2 h3 rfl
  · cases r1
    exact fin (ρ1 := ρ1) (by rw [hK]; exact Same.seq R1.sub h1) (fun G2 H2 s1 s2 => by rw [hK]; exact Same.seq (s1.trans s2) h1) h2 h3 rfl
  · cases r1
    have hq : SqT X.K H1 a vs := by rw [hK]; exact sqT_mono R1.sub h1
    obtain ⟨its, rv, p, hz⟩ := I1.tuple hq
    refine wpAny_pyIter_tuple (show s1.heap.IsTuple a its.toArray from p) ?_
    refine ⟨s1.heap.objs.size, [s1.heap.objs.size], _, _, H1, rfl, I1.kept (t' := s1.toks) fun b o e => Heap.get?_push_of_some _ e, turn_tuple a _, ⟨_, Heap.get?_push_size _ rfl, rfl, rfl⟩, fun b hb => ?_, h3 _ (walk_seq h2 (walk_tup (K := X.K) (a := a)) fun G2 H2 s1 s2 => by rw [hK]; exact sqT_mono (s1.trans s2) h1)⟩
    have e : b = s1.heap.objs.size := by simpa using hb
    subst e
    exact I1.fpOk (Nat.le_refl _) (I1.hok.fresh (Nat.le_refl _))
/-- range(n) -/
def rangeD (lo : Int) (n : Nat) : List D := (List.range n).map fun (i : Nat) => D.int (lo + i)
theorem walk_rng {lo : Int} {n : Nat} {G : Hp} : WalkD Z (Itr lo n) (rangeD lo n) G := by
  intro G1 H1 s1 s2 i
  have hl : (rangeD lo n).length = n := by simp [rangeD]
  refine ⟨fun e => by rw [e, hl]; exact Nat.le_refl _, fun d hd => ?_⟩
  have hi : i < n := by have := (List.getElem?_eq_some_iff.mp hd).1; omega
  refine ⟨hi, fun x H2 y => ?_⟩
  obtain ⟨e1, e2⟩ := y
  subst e1 e2
  have : d = .int (lo + i) := by
    unfold rangeD at hd
    rw [List.getElem?_map, List.getElem?_range hi] at hd
    exact (Option.some.inj hd).symm
  subst this
  exact ⟨G1, Grow.refl, .int _⟩
def mRange1 (fs : M (List D)) : M (List D) := fun ρ => (fs ρ).bind fun ds ρ1 => match ds with
  | [.int j] => if -(2 ^ 62) ≤ j ∧ j < 2 ^ 62 then .ok (rangeD 0 j.toNat) ρ1 else .bad
  | _ => .bad
theorem ei_range1 {tg a : Expr} {fs : M (List D)} {p pos : Pos} (hm : X.mg "range" = none) (ha : EL X Z io W [a] fs) (hg : Gl X "range" := by rfl) (hs : starEach [a] X.env = [(false, eval a X.env)] := by rfl) : EI X Z io W tg (.Call (.Name "range" p) [a] [] pos) (mRange1 fs) := by
  refine ⟨fun pins s σ H R I h => (pi_range1 hg hm ha hs).run pins s σ H R I ?_⟩
  obtain ⟨B, G, ρ, hio, Rp, k⟩ := h
  refine Kont.bind k hio Rp fun vs H1 G1 ρ1 ds R1 s1 p1 k1 => ?_
  split at k1
  · rename_i j
    split at k1
    · rename_i z
      obtain ⟨v, rfl, h⟩ := denL1 p1
      cases h
      exact ⟨j, rfl, z.1, z.2, k1.ok R1 (Same.refl _) walk_rng⟩
    · exact k1.elim
  · exact k1.elim
def mRange2 (fs : M (List D)) : M (List D) := fun ρ => (fs ρ).bind fun ds ρ1 => match ds with
  | [.int i, .int j] => if -(2 ^ 62) ≤ i ∧ i < 2 ^ 62 ∧ -(2 ^ 62) ≤ j ∧ j < 2 ^ 62 then .ok (rangeD i (j - i).toNat) ρ1 else .bad
  | _ => .bad
theorem ei_range2 {tg a b : Expr} {fs : M (List D)} {p pos : Pos} (hm : X.mg "range" = none) (ha : EL X Z io W [a, b] fs) (hg : Gl X "range" := by rfl) (hs : starEach [a, b] X.env = [(false, eval a X.env), (false, eval b X.env)] := by rfl) (hs2 : starEach [b] X.env = [(false, eval b X.env)] := by rfl) : EI X Z io W tg (.Call (.Name "range" p) [a, b] [] pos) (mRange2 fs) := by
  refine ⟨fun pins s σ H R I h => (pi_range2 hg hm ha hs hs2).run pins s σ H R I ?_⟩
  obtain ⟨B, G, ρ, hio, Rp, k⟩ := h
  refine Kont.bind k hio Rp fun vs H1 G1 ρ1 ds R1 s1 p1 k1 => ?_
  split at k1
  · rename_i i j
    split at k1
    · rename_i z
      obtain ⟨v, w, rfl, h1, h2⟩ := denL2 p1
      cases h1
      cases h2
      exact ⟨i, j, rfl, z, k1.ok R1 (Same.refl _) walk_rng⟩
    · exact k1.elim
  · exact k1.elim

/-! ### a def -/
def outsFrom (n : Nat) (ρ : Rho) : List SV → List SV
  | [] => []
  | .d x :: r => .d x :: outsFrom (n + 1) ρ r
  | .o c :: r => (match ρ[n]? with
    | some (some (.o c')) => .o c'
    | _ => .o c) :: outsFrom (n + 1) ρ r
/-- the mirror of a def with body g -/
def mDef (nN nP : Nat) (g : SM) : FM := fun args => if args.length = nP then match g (args.map some ++ List.replicate (nN - nP) none) with
    | .nx ρ => .ret (.d .non) (outsFrom 0 ρ args)
    | .rt r ρ => .ret r (outsFrom 0 ρ args)
    | .ex x ρ => .ex x (outsFrom 0 ρ args)
    | _ => .bad
  else .bad
theorem outs_len (ρ : Rho) : ∀ (l : List SV) (n : Nat), (outsFrom n ρ l).length = l.length
  | [], _ => rfl
  | .d x :: r, n => by simp only [outsFrom, List.length_cons, outs_len ρ r]
  | .o c :: r, n => by simp only [outsFrom, List.length_cons, outs_len ρ r]
theorem outs_d (ρ : Rho) : ∀ {l : List SV} {n k : Nat} {x : D}, (outsFrom n ρ l)[k]? = some (SV.d x) → l[k]? = some (SV.d x)
  | [], n, k, x, e => by simp [outsFrom] at e
  | .d y :: r, n, 0, x, e => by simpa [outsFrom] using e
  | .d y :: r, n, k + 1, x, e => by
    simp only [outsFrom, List.getElem?_cons_succ] at e ⊢
    exact outs_d ρ e
  | .o c :: r, n, 0, x, e => by
    simp only [outsFrom, List.getElem?_cons_zero] at e
    split at e <;> cases e
  | .o c :: r, n, k + 1, x, e => by
    simp only [outsFrom, List.getElem?_cons_succ] at e ⊢
    exact outs_d ρ e
theorem outs_o (ρ : Rho) : ∀ {l : List SV} {n k : Nat} {c' : OC}, (outsFrom n ρ l)[k]? = some (SV.o c') → ∃ c, l[k]? = some (SV.o c) ∧ (ρ[n + k]? = some (some (SV.o c')) ∨ ∀ d, ρ[n + k]? ≠ some (some (SV.o d)))
  | [], n, k, x, e => by simp [outsFrom] at e
  | .d y :: r, n, 0, x, e => by simp [outsFrom] at e
  | .d y :: r, n, k + 1, x, e => by
    simp only [outsFrom, List.getElem?_cons_succ] at e ⊢
    obtain ⟨c, h1, h2⟩ := outs_o ρ e
    exact ⟨c, h1, by rw [show n + (k + 1) = n + 1 + k by omega]; exact h2⟩
  | .o c :: r, n, 0, x, e => by
    simp only [outsFrom, List.getElem?_cons_zero] at e
    refine ⟨c, rfl, ?_⟩
    rw [Nat.add_zero]
    split at e
    · rename_i c1 h
      cases e
      exact .inl h
    · rename_i h
      exact .inr fun d hd => h d hd
  | .o c :: r, n, k + 1, x, e => by
    simp only [outsFrom, List.getElem?_cons_succ] at e ⊢
    obtain ⟨c, h1, h2⟩ := outs_o ρ e
    exact ⟨c, h1, by rw [show n + (k + 1) = n + 1 + k by omega]; exact h2⟩
theorem outs_is (ρ : Rho) : ∀ {l : List SV} {n k : Nat} {c : OC}, l[k]? = some (SV.o c) → ∃ c', (outsFrom n ρ l)[k]? = some (SV.o c')
  | [], n, k, x, e => by simp at e
  | .d y :: r, n, 0, x, e => by simp at e
  | .d y :: r, n, k + 1, x, e => by
    simp only [outsFrom, List.getElem?_cons_succ] at e ⊢
    exact outs_is ρ e
  | .o c :: r, n, 0, x, e => by
    simp only [outsFrom, List.getElem?_cons_zero]
    split <;> exact ⟨_, rfl⟩
  | .o c :: r, n, k + 1, x, e => by
    simp only [outsFrom, List.getElem?_cons_succ] at e ⊢
    exact outs_is ρ e
theorem pad_get {α : Type} {l : List α} {n i : Nat} {x : α} (h : (l.map some ++ List.replicate n none)[i]? = some (some x)) : l[i]? = some x := by
  by_cases hi : i < l.length
  · rw [List.getElem?_append_left (by simpa using hi), map_some_get] at h
    exact h
  · rw [List.getElem?_append_right (by simpa using hi), List.getElem?_replicate] at h
    split at h <;> cases h
theorem get_pad {α : Type} {l : List α} {n i : Nat} {x : α} (h : l[i]? = some x) : (l.map some ++ List.replicate n none)[i]? = some (some x) := by
  have hi : i < l.length := (List.getElem?_eq_some_iff.mp h).1
  rw [List.getElem?_append_left (by simpa using hi), map_some_get]
  exact h
theorem Rep.pad {vs : List V} {args : List SV} {n : Nat} (R : Rep Z B G H (vs.map some) (args.map some)) : Rep Z B G H (vs.map some ++ List.replicate n none) (args.map some ++ List.replicate n none) := by
  refine ⟨R.sub, R.fr, R.new, R.ext, R.ntb, by rw [List.length_append, List.length_append, R.len, List.length_replicate, List.length_replicate], fun i x e => ?_, fun i c e => ?_, fun i j p q c d a h1 h2 h3 h4 hne f g => R.apart i j p q c d a (map_some_get.mpr (pad_get h1)) (map_some_get.mpr (pad_get h2)) (map_some_get.mpr (pad_get h3)) (map_some_get.mpr (pad_get h4)) hne f g, fun x hx => ?_, R.tab⟩
  · obtain ⟨v, h1, h2⟩ := R.frz i x (map_some_get.mpr (pad_get e))
    exact ⟨v, get_pad (map_some_get.mp h1), h2⟩
  · obtain ⟨p, h1, h2⟩ := R.own i c (map_some_get.mpr (pad_get e))
    exact ⟨p, get_pad (map_some_get.mp h1), h2⟩
  · obtain ⟨h1, c, h2⟩ := R.io x hx
    exact ⟨get_pad (map_some_get.mp h1), c, get_pad (map_some_get.mp h2)⟩
/-- from the body's end to the caller's -/
theorem Rep.unpad {vs : List V} {args : List SV} {ioI : List Nat} {G' H' : Hp} {σ' : L2.St} {ρ' : Rho} (hm : modesFrom 0 args = ioI) (R0 : Rep Z (base0 G H vs args ioI) G H (vs.map some) (args.map some)) (R : Rep Z (base0 G H vs args ioI) G' H' σ' ρ') :
    Rep Z (base0 G H vs args ioI) G' H' (vs.map some) ((outsFrom 0 ρ' args).map some) ∧ ∀ v r, RD Z (base0 G H vs args ioI) G' H' σ' ρ' v r → RD Z (base0 G H vs args ioI) G' H' (vs.map some) ((outsFrom 0 ρ' args).map some) v r := by
  have at' : ∀ {k : Nat} {c' : OC}, (outsFrom 0 ρ' args)[k]? = some (SV.o c') → ∃ p, vs[k]? = some (V.ref p) ∧ σ'[k]? = some (some (V.ref p)) ∧ ρ'[k]? = some (some (SV.o c')) := fun {k c'} e => by
    obtain ⟨c, h1, h2⟩ := outs_o ρ' e
    rw [Nat.zero_add] at h2
    obtain ⟨p, h3, _⟩ := R0.own k c (map_some_get.mpr h1)
    have h3 := map_some_get.mp h3
    have hin : (k, p) ∈ (base0 G H vs args ioI).io := mem_ioOf.mpr ⟨by show k ∈ ioI; rw [← hm, mem_modes]; exact ⟨Nat.zero_le _, c, by rw [Nat.sub_zero]; exact h1⟩, h3⟩
    obtain ⟨h4, c1, h5⟩ := R.io _ hin
    refine ⟨p, h3, h4, ?_⟩
    rcases h2 with h2 | h2
    · exact h2
    · exact absurd h5 (h2 c1)
  refine ⟨⟨R.sub, R.fr, R.new, R.ext, R.ntb, ?_, fun i x e => ?_, fun i c e => ?_, fun i j p q c d a h1 h2 h3 h4 hne f g => ?_, fun x hx => ?_, R.tab⟩, fun v r hr => ?_⟩
  · rw [List.length_map, List.length_map, outs_len]
    have := R0.len
    rwa [List.length_map, List.length_map] at this
  · have e := outs_d ρ' (map_some_get.mp e)
    obtain ⟨v, h1, h2⟩ := R0.frz i x (map_some_get.mpr e)
    exact ⟨v, h1, h2.mono R.ext⟩
  · obtain ⟨p, h1, h2, h3⟩ := at' (map_some_get.mp e)
    obtain ⟨q, h4, h5, h6⟩ := R.own i c h3
    cases slot_eq h2 h4
    exact ⟨_, map_some_get.mpr h1, h5, h6⟩
  · obtain ⟨p', a1, a2, a3⟩ := at' (map_some_get.mp h1)
    obtain ⟨q', b1, b2, b3⟩ := at' (map_some_get.mp h2)
    have h3 := map_some_get.mp h3
    have h4 := map_some_get.mp h4
    rw [a1] at h3; rw [b1] at h4
    cases h3; cases h4
    exact R.apart i j p q c d a a3 b3 a2 b2 hne f g
  · obtain ⟨h1, c, h2⟩ := R0.io x hx
    obtain ⟨c', h3⟩ := outs_is (n := 0) ρ' (map_some_get.mp h2)
    exact ⟨h1, c', map_some_get.mpr h3⟩
  · cases r with
    | d x => exact hr
    | o c =>
      obtain ⟨p, rfl, h1, h2⟩ := hr
      refine ⟨p, rfl, h1, fun a f => ⟨(h2 a f).1, (h2 a f).2.1, fun i q d k1 k2 g => ?_⟩⟩
      obtain ⟨p', a1, a2, a3⟩ := at' (map_some_get.mp k1)
      have k2 := map_some_get.mp k2
      rw [a1] at k2; cases k2
      exact (h2 a f).2.2 i q d a3 a2 g
end
theorem okN {P : Program} {w : World} {K : PySem.W.Frag} {mg : Str → Option Value} {base : Heap} {x qual : Str} {st : Stmt} {f : Addr} {fd : FuncData} {N ps : List Str} {k : Nat} {sp : Sp} (F : Fun K x qual st f fd) (S : FnScope N ps (defScope st)) (len : ∀ vs H Q E, sp vs H Q E → vs.length = ps.length)
    (hbody : ∀ (cdv : Value) (A : Around) (outer : List Env) (s : Shared) (H : Hp) (vs : List V) (Q : VK) (E : XK), Room k (A.deeper (envOfC qual (defScope st) s.heap.objs.size f cdv)) → sp vs H Q E →
      ∃ t, PSs (cxOf (L2N.CX P w) P w K mg base N qual (defScope st) f cdv A outer s H E) (defBody st) t ∧ t { nx := fun _ H' => Q .non H', rt := Q } (start N vs) H) : FnOk P w K mg base (L2N.CX P w) (k + 1) f fd ps sp := by
  obtain ⟨_, _, _, _, _, _, cdv, _, _, rfl, lk, hcd⟩ := F.ex
  exact fn_of lk hcd S len (hbody cdv)
theorem spD_len {Z : Zx} {ioI : List Nat} {nN nP : Nat} {g : SM} {vs : List V} {H : Hp} {Q : VK} {E : XK} (h : spD Z ioI (mDef nN nP g) vs H Q E) : vs.length = nP := by
  obtain ⟨G, args, _, R, k⟩ := h
  have l := R.len
  rw [List.length_map, List.length_map] at l
  rw [l]
  unfold mDef at k
  split at k
  · assumption
  · exact k.elim
/-- from the promise to the body's reading -/
theorem spD_in {Z : Zx} {ioI : List Nat} {N : List Str} {nP : Nat} {g : SM} {vs : List V} {H : Hp} {Q : VK} {E : XK} (h : spD Z ioI (mDef N.length nP g) vs H Q E) : tS Z ioI (fun cls d _ H => E cls d H) g { nx := fun _ H' => Q .non H', rt := Q } (L2.start N vs) H := by
  obtain ⟨G, args, hm, R, k⟩ := h
  have l := R.len
  rw [List.length_map, List.length_map] at l
  unfold mDef at k
  split at k
  · rename_i hl
    have R1 := R.pad (n := N.length - nP)
    have es : L2.start N vs = vs.map some ++ List.replicate (N.length - nP) none := by unfold L2.start; rw [l, hl]
    refine ⟨base0 G H vs args ioI, G, args.map some ++ List.replicate (N.length - nP) none, ?_, by rw [es]; exact R1, ?_⟩
    · refine ioOf_fst fun i hi => ?_
      rw [← hm, mem_modes] at hi
      obtain ⟨_, c, e⟩ := hi
      rw [Nat.sub_zero] at e
      obtain ⟨p, h1, _⟩ := R.own i c (map_some_get.mpr e)
      exact ⟨p, map_some_get.mp h1⟩
    · cases ho : g (args.map some ++ List.replicate (N.length - nP) none) with
      | nx ρ =>
        rw [ho] at k
        intro σ' G' H' R' s
        exact k .non G' H' (Rep.unpad hm R R').1 .non
      | rt r ρ =>
        rw [ho] at k
        intro v σ' G' H' R' s hr
        obtain ⟨a, b⟩ := Rep.unpad hm R R'
        exact k v G' H' a (b v r hr)
      | ex x ρ =>
        rw [ho] at k
        intro cls d σ' G' H' R' s hx
        exact k cls d G' H' (Rep.unpad hm R R').1 hx
      | bk ρ => rw [ho] at k; exact k.elim
      | ct ρ => rw [ho] at k; exact k.elim
      | bad => rw [ho] at k; exact k.elim
  · exact k.elim
/-- a def keeps the promise of its mirror -/
theorem defOk {P : Program} {w : World} {Z : Zx} {base : Heap} {x qual : Str} {st : Stmt} {f : Addr} {fd : FuncData} {N ps : List Str} {k : Nat} {ioI : List Nat} {g : SM} (F : Fun Z.K x qual st f fd) (S : FnScope N ps (defScope st)) (hf : Z.mg x = some (.ref f)) (hb : Binds Z.K fd ps [])
    (hbody : ∀ (cdv : Value) (A : Around) (outer : List Env) (s : Shared) (H : Hp) (E : XK), Room k (A.deeper (envOfC qual (defScope st) s.heap.objs.size f cdv)) →
      SB (cxOf (L2N.CX P w) P w Z.K Z.mg base N qual (defScope st) f cdv A outer s H E) Z ioI (fun cls d _ H => E cls d H) (defBody st) g) : DefOk P w Z base x (k + 1) ps ioI (mDef N.length ps.length g) :=
  ⟨f, fd, okN F S (fun vs H Q E h => spD_len h) (fun cdv A outer s H vs Q E hr h => ⟨_, hbody cdv A outer s H E hr, spD_in h⟩), hf, F.kp, hb⟩
end DL
/-! DL7: list comprehensions; raising. -/
namespace DL
open PySem PySem.Spec PyProof.Rows L2

section
variable {X : Cx} {Z : Zx} {io : List Nat} {W : WX} {B : Base} {G H : Hp} {σ : L2.St} {ρ : Rho} {pos : Pos}
/-! ### from here on -/
def rb (B : Base) (G H : Hp) (σ : L2.St) (ρ : Rho) : Base := ⟨H, G, fun a => ∃ (i : Nat) (p : Addr) (c : OC), ρ[i]? = some (some (SV.o c)) ∧ σ[i]? = some (some (V.ref p)) ∧ Fp H p c a, B.io⟩
theorem Rep.rebase (R : Rep Z B G H σ ρ) : Rep Z (rb B G H σ ρ) G H σ ρ :=
  ⟨R.sub, fun a o e _ _ => (show H a = some o from e), fun a h => .inl (show G a ≠ none from h), Same.refl _, R.ntb, R.len, R.frz, fun i c e => by
    obtain ⟨p, h1, h2, h3⟩ := R.own i c e
    exact ⟨p, h1, h2, fun a f => ⟨(h3 a f).1, .inl ⟨i, p, c, e, h1, f⟩⟩⟩, R.apart, R.io, R.tab⟩
theorem Rep.okS (R : Rep Z B G H σ ρ) {a : Addr} (h : (rb B G H σ ρ).S a) : G a = none ∧ (B.S a ∨ B.New a) := by
  obtain ⟨i, p, c, h1, h2, h3⟩ := h
  exact (R.ownP h1 h2).2 a h3
theorem Rep.unbase {G' H' : Hp} {σ' : L2.St} {ρ' : Rho} (R : Rep Z B G H σ ρ) (R' : Rep Z (rb B G H σ ρ) G' H' σ' ρ') : Rep Z B G' H' σ' ρ' := by
  have okN : ∀ {a : Addr}, ((rb B G H σ ρ).S a ∨ (rb B G H σ ρ).New a) → B.S a ∨ B.New a := fun {a} h => h.elim (fun s => (R.okS s).2) fun y => R.free1 y
  refine ⟨R'.sub, fun a o e s t => R'.fr a o (R.fr a o e s t) (fun h => ?_) t, fun a h => ?_, fun a o e => R'.ext a o (R.ext a o e), R'.ntb, R'.len, R'.frz, fun i c e => ?_, R'.apart, R'.io, R'.tab⟩
  · rcases (R.okS h).2 with y | y
    · exact s y
    · exact y o e t
  · rcases R'.new a h with y | y | y
    · exact R.new a y
    · exact .inr ((R.free1 y).elim .inr .inl)
    · exact .inr ((R.okS y).2.elim .inr .inl)
  · obtain ⟨p, h1, h2, h3⟩ := R'.own i c e
    exact ⟨p, h1, h2, fun a f => ⟨(h3 a f).1, okN (h3 a f).2⟩⟩
/-- fewer slots known -/
theorem Rep.weak {σ' : L2.St} {ρ' : Rho} (R : Rep Z B G H σ ρ) (hl : σ'.length = ρ'.length) (h : ∀ (i : Nat) (r : SV), ρ'[i]? = some (some r) → ρ[i]? = some (some r) ∧ σ'[i]? = σ[i]?) (hio : ∀ x ∈ B.io, ρ'[x.1]? = ρ[x.1]? ∧ σ'[x.1]? = σ[x.1]?) : Rep Z B G H σ' ρ' := by
  refine ⟨R.sub, R.fr, R.new, R.ext, R.ntb, hl, fun i x e => ?_, fun i c e => ?_, fun i j p q c d a h1 h2 h3 h4 hne f g => ?_, fun x hx => ?_, R.tab⟩
  · obtain ⟨h1, h2⟩ := h i _ e
    rw [h2]; exact R.frz i x h1
  · obtain ⟨h1, h2⟩ := h i _ e
    rw [h2]; exact R.own i c h1
  · obtain ⟨a1, a2⟩ := h i _ h1
    obtain ⟨b1, b2⟩ := h j _ h2
    rw [a2] at h3; rw [b2] at h4
    exact R.apart i j p q c d a a1 b1 h3 h4 hne f g
  · obtain ⟨h1, h2⟩ := hio x hx
    rw [h1, h2]; exact R.io x hx
/-- a list that no slot knows is changed -/
theorem Rep.poke (R : Rep Z B G H σ ρ) {p : Addr} {vs ws : List V} (hl : H p = some (.lst vs)) (gp : G p = none) (s : B.S p ∨ B.New p) (o : ∀ (i : Nat) (q : Addr) (c : OC), ρ[i]? = some (some (SV.o c)) → σ[i]? = some (some (V.ref q)) → ¬ Fp H q c p) : Rep Z B G (upd H p (.lst ws)) σ ρ := by
  have ne : ∀ a u, G a = some u → a ≠ p := fun a u e z => by rw [z, gp] at e; cases e
  have kk : ∀ {i : Nat} {q : Addr} {c : OC}, ρ[i]? = some (some (SV.o c)) → σ[i]? = some (some (V.ref q)) → ∀ a, Fp H q c a → upd H p (.lst ws) a = H a := fun h1 h2 a f => upd_ne fun z => by subst z; exact o _ _ _ h1 h2 f
  refine ⟨fun a u e => by rw [upd_ne (ne a u e)]; exact R.sub a u e, fun a u e ns t => ?_, R.new, R.ext, R.ntb, R.len, R.frz, fun i c e => ?_, fun i j q r c d a h1 h2 h3 h4 hne f g => ?_, R.io, tabs_but R.tab fun b u e n => ?_⟩
  · have z : a ≠ p := fun z => by
      subst z
      rcases s with y | y
      · exact ns y
      · exact y u e t
    rw [upd_ne z]; exact R.fr a u e ns t
  · obtain ⟨q, h1, h2, h3⟩ := R.own i c e
    exact ⟨q, h1, h2.keep (kk e h1), fun a f => h3 a ((Fp.keep (kk e h1)).mp f)⟩
  · exact R.apart i j q r c d a h1 h2 h3 h4 hne ((Fp.keep (kk h1 h3)).mp f) ((Fp.keep (kk h2 h4)).mp g)
  · rw [upd_ne (fun z => n vs (by rw [z, hl] at e; exact (Option.some.inj e).symm))]
    exact e

/-! ### the block's slots -/
def wipeR (ρ : Rho) : List Nat → Rho
  | [] => ρ
  | v :: vs => (wipeR ρ vs).set v none
theorem wipeR_len (ρ : Rho) : ∀ vs, (wipeR ρ vs).length = ρ.length
  | [] => rfl
  | v :: vs => by unfold wipeR; rw [List.length_set, wipeR_len ρ vs]
theorem wipeR_some {ρ : Rho} {i : Nat} {r : SV} : ∀ {vs : List Nat}, (wipeR ρ vs)[i]? = some (some r) → ρ[i]? = some (some r) ∧ i ∉ vs
  | [], h => ⟨h, by simp⟩
  | v :: vs, h => by
    unfold wipeR at h
    rw [getElem?_set'] at h
    split at h
    · split at h <;> cases h
    · rename_i z
      obtain ⟨h1, h2⟩ := wipeR_some h
      exact ⟨h1, fun y => (List.mem_cons.mp y).elim (fun e => z e.symm) h2⟩
theorem wipeR_not {ρ : Rho} {i : Nat} : ∀ {vs : List Nat}, i ∉ vs → (wipeR ρ vs)[i]? = ρ[i]?
  | [], _ => rfl
  | v :: vs, h => by
    unfold wipeR
    rw [getElem?_set', if_neg (fun z => h (by rw [z]; exact List.mem_cons_self))]
    exact wipeR_not fun y => h (List.mem_cons_of_mem _ y)
theorem wipe_not {σ : L2.St} {i : Nat} : ∀ {vs : List Nat}, i ∉ vs → (wipe σ vs)[i]? = σ[i]?
  | [], _ => rfl
  | v :: vs, h => by
    unfold wipe
    rw [getElem?_set', if_neg (fun z => h (by rw [z]; exact List.mem_cons_self))]
    exact wipe_not fun y => h (List.mem_cons_of_mem _ y)
theorem wipe_in {σ : L2.St} {i : Nat} : ∀ {vs : List Nat}, i ∈ vs → (wipe σ vs)[i]? = if i < σ.length then some none else none
  | v :: vs, h => by
    unfold wipe
    rw [getElem?_set']
    split
    · rw [wipe_length]
    · rename_i z
      rcases List.mem_cons.mp h with e | h
      · exact absurd e.symm z
      · exact wipe_in h
theorem wipe_off {σ σ2 : L2.St} {sl vs : List Nat} (o : Off sl (wipe σ vs) σ2) (hs : ∀ j ∈ sl, j ∈ vs) : wipe σ2 vs = wipe σ vs := by
  have hl : σ2.length = σ.length := by rw [o.1, wipe_length]
  apply List.ext_getElem?
  intro j
  by_cases hj : j ∈ vs
  · rw [wipe_in hj, wipe_in hj, hl]
  · rw [wipe_not hj, o.2 j (fun z => hj (hs j z))]
theorem Rep.wipe (R : Rep Z B G H σ ρ) {vs : List Nat} (hio : ∀ j ∈ vs, j ∉ B.io.map (·.1)) : Rep Z B G H (L2.wipe σ vs) (wipeR ρ vs) := by
  refine R.weak (by rw [wipe_length, wipeR_len]; exact R.len) (fun i r e => ?_) fun x hx => ?_
  · obtain ⟨h1, h2⟩ := wipeR_some e
    exact ⟨h1, wipe_not h2⟩
  · have : x.1 ∉ vs := fun z => hio _ z (List.mem_map.mpr ⟨x, hx, rfl⟩)
    exact ⟨wipeR_not this, wipe_not this⟩
/-- the slots behind the block: its own names are again what they were (data) -/
def restore (ρ0 : Rho) : List Nat → Rho → Rho
  | [], ρ => ρ
  | v :: vs, ρ => (restore ρ0 vs ρ).set v (match ρ0[v]? with
    | some (some (.d x)) => some (.d x)
    | _ => none)
theorem restore_len (ρ0 : Rho) (ρ : Rho) : ∀ vs, (restore ρ0 vs ρ).length = ρ.length
  | [] => rfl
  | v :: vs => by unfold restore; rw [List.length_set, restore_len ρ0 ρ vs]
theorem restore_not {ρ0 ρ : Rho} {i : Nat} : ∀ {vs : List Nat}, i ∉ vs → (restore ρ0 vs ρ)[i]? = ρ[i]?
  | [], _ => rfl
  | v :: vs, h => by
    unfold restore
    rw [getElem?_set', if_neg (fun z => h (by rw [z]; exact List.mem_cons_self))]
    exact restore_not fun y => h (List.mem_cons_of_mem _ y)
theorem restore_in {ρ0 ρ : Rho} {i : Nat} {r : SV} : ∀ {vs : List Nat}, i ∈ vs → (restore ρ0 vs ρ)[i]? = some (some r) → ∃ x, r = .d x ∧ ρ0[i]? = some (some (SV.d x))
  | v :: vs, h, e => by
    unfold restore at e
    rw [getElem?_set'] at e
    split at e
    · rename_i z
      subst z
      split at e
      · injection e with e
        split at e
        · rename_i x h'
          cases e
          exact ⟨x, rfl, h'⟩
        · cases e
      · cases e
    · rename_i z
      rcases List.mem_cons.mp h with y | h
      · exact absurd y.symm z
      · exact restore_in h e
theorem Rep.restored {ρ0 : Rho} {G0 : Hp} {vs : List Nat} (R0 : Rep Z B G0 H σ ρ0 ∨ ∃ H0, Rep Z B G0 H0 σ ρ0) (sg : Same G0 G) (R : Rep Z B G H (L2.wipe σ vs) ρ) (hio : ∀ j ∈ vs, j ∉ B.io.map (·.1)) : Rep Z B G H σ (restore ρ0 vs ρ) := by
  obtain ⟨H0, R0⟩ : ∃ H0, Rep Z B G0 H0 σ ρ0 := R0.elim (fun h => ⟨H, h⟩) id
  have hl : σ.length = ρ.length := by rw [← R.len, wipe_length]
  have own' : ∀ {i : Nat} {c : OC}, (restore ρ0 vs ρ)[i]? = some (some (SV.o c)) → ρ[i]? = some (some (SV.o c)) ∧ i ∉ vs := fun {i c} e => by
    by_cases hi : i ∈ vs
    · obtain ⟨x, h, _⟩ := restore_in hi e
      cases h
    · rw [restore_not hi] at e
      exact ⟨e, hi⟩
  refine ⟨R.sub, R.fr, R.new, R.ext, R.ntb, by rw [restore_len]; exact hl, fun i x e => ?_, fun i c e => ?_, fun i j p q c d a h1 h2 h3 h4 hne f g => ?_, fun x hx => ?_, R.tab⟩
  · by_cases hi : i ∈ vs
    · obtain ⟨y, h, e0⟩ := restore_in hi e
      cases h
      obtain ⟨v, h1, h2⟩ := R0.frz i x e0
      exact ⟨v, h1, h2.mono sg⟩
    · rw [restore_not hi] at e
      obtain ⟨v, h1, h2⟩ := R.frz i x e
      rw [wipe_not hi] at h1
      exact ⟨v, h1, h2⟩
  · obtain ⟨e1, hi⟩ := own' e
    obtain ⟨p, h1, h2⟩ := R.own i c e1
    rw [wipe_not hi] at h1
    exact ⟨p, h1, h2⟩
  · obtain ⟨a1, a2⟩ := own' h1
    obtain ⟨b1, b2⟩ := own' h2
    exact R.apart i j p q c d a a1 b1 (by rw [wipe_not a2]; exact h3) (by rw [wipe_not b2]; exact h4) hne f g
  · have : x.1 ∉ vs := fun z => hio _ z (List.mem_map.mpr ⟨x, hx, rfl⟩)
    obtain ⟨h1, c, h2⟩ := R.io x hx
    rw [wipe_not this] at h1
    exact ⟨h1, c, by rw [restore_not this]; exact h2⟩

/-! ### [e for x in xs if t] -/
abbrev W0 : WX := fun _ _ _ _ => False
theorem takesW0 {X : Cx} : L2N.Takes X W0 := fun _ _ ⟨_, _, _, _, _, _, _, _, _, _, _, _, _, _, _, _, z⟩ => z.elim
def ETs (X : Cx) (Z : Zx) (io : List Nat) (W : WX) (ifs : List Expr) (t : M Bool) : Prop := PTs X ifs (tG Z io W PB t)
def mYes : M Bool := fun ρ => .ok true ρ
theorem ets_nil : ETs X Z io W [] mYes := ⟨fun pins s σ H Q I ⟨B, G, ρ, hio, R, k⟩ => pts_nil.run pins s σ H Q I (show Q true H from k.ok R (Same.refl _) rfl)⟩
theorem ets_one {c : Expr} {t : M Bool} (h : ET X Z io W c t) : ETs X Z io W [c] t := pts_one h
def lcL (own : List Nat) (gt : GTm) (t : M Bool) (f : M D) : List D → Rho → List D → Option (List D × Rho)
  | [], ρ, acc => some (acc, ρ)
  | d :: ds, ρ, acc => match gt d ρ with
    | none => none
    | some ρ1 => match t ρ1 with
      | .ok b ρ2 => if b = true then match f ρ2 with
          | .ok y ρ3 => if acc.length < sizeLine then lcL own gt t f ds (wipeR ρ3 own) (acc ++ [y]) else none
          | _ => none
        else lcL own gt t f ds (wipeR ρ2 own) acc
      | _ => none
def mLc (own : List Nat) (it : M (List D)) (gt : GTm) (t : M Bool) (f : M D) : M SV := fun ρ => (it ρ).bind fun ds ρ1 => match lcL own gt t f ds (wipeR ρ1 own) [] with
  | some (ys, ρ2) => .ok (.o (.lst ys)) (restore ρ1 own ρ2)
  | none => .bad
theorem lc_go {ρ1 : Rho} {J : It} {ds ys : List D} {own sl : List Nat} {gt : GTm} {t : M Bool} {f : M D} {ρb : Rho} (hio : B.io.map (·.1) = io) (R1 : Rep Z B G H σ ρ1) (w : WalkD Z J ds G) (e : lcL own gt t f ds (wipeR ρ1 own) [] = some (ys, ρb)) (hsub : ∀ j ∈ sl, j ∈ own) (hno : ∀ j ∈ own, j ∉ io)
    {Q : VK} (fin : ∀ D H' G', Rep Z B G' H' σ (restore ρ1 own ρb) → Same G G' → RD Z B G' H' σ (restore ρ1 own ρb) (.ref D) (.o (.lst ys)) → Q (.ref D) H') :
    ∀ D, H D = none → ∃ Wm : Nat → Nat → Hp → Prop, (∃ m, Wm 0 m (upd H D (.lst []))) ∧ ∀ i m H, Wm i m H →
      (J.stop i H ∧ Q (.ref D) H) ∨ (J.go i H ∧ ∃ Nx : Hp → Prop, (∀ H', Nx H' → ∃ m', m' < m ∧ Wm (i + 1) m' H') ∧ ∀ x H', J.yld i H x H' → tT Z io sl gt x (wipe σ own) H' fun σ2 H2 => wipe σ2 own = wipe σ own ∧ tG Z io W0 PB t σ2 H2 fun b H3 =>
        if b = true then tG Z io W0 (PV Z) f σ2 H3 fun y H4 => ∃ acc, H4 D = some (.lst acc) ∧ acc.length < sizeLine ∧ Nx (upd H4 D (.lst (acc ++ [y]))) else Nx H3) := by
  intro D nD
  have hnoB : ∀ j ∈ own, j ∉ B.io.map (·.1) := by rw [hio]; exact hno
  have sD : B.S D ∨ B.New D := R1.free0 nD
  refine ⟨fun i m H' => m = ds.length - i ∧ i ≤ ds.length ∧ ∃ G' ρ' acc vacc, Same G G' ∧ Rep Z B G' H' (wipe σ own) ρ' ∧ H' D = some (.lst vacc) ∧ DenL Z G' vacc acc ∧ G' D = none ∧
    (∀ (i : Nat) (q : Addr) (c : OC), ρ'[i]? = some (some (SV.o c)) → (wipe σ own)[i]? = some (some (V.ref q)) → ¬ Fp H' q c D) ∧ lcL own gt t f (ds.drop i) ρ' acc = some (ys, ρb), ⟨ds.length, by simp, Nat.zero_le _, G, wipeR ρ1 own, [], [], Same.refl _, (R1.wipe hnoB).newO nD, upd_same, .nil, R1.freeG nD, fun i q c h1 h2 f => ?_, e⟩, ?_⟩
  · have k := (R1.wipe hnoB).ownFree h1 h2 (show Fp H q c D from f) nD
    exact k rfl
  rintro i m H1 ⟨rfl, hi, G1, ρ', acc, vacc, s1, R2, hD, hacc, gD, oD, el⟩
  obtain ⟨w1, w2⟩ := w G1 H1 s1 R2.sub i
  by_cases hlt : i < ds.length
  · obtain ⟨d, hd⟩ : ∃ d, ds[i]? = some d := ⟨ds[i], by simp [hlt]⟩
    obtain ⟨go, yl⟩ := w2 d hd
    have ed : ds.drop i = d :: ds.drop (i + 1) := by
      rw [List.drop_eq_getElem_cons hlt]
      congr 1
      rw [List.getElem?_eq_getElem hlt] at hd
      exact Option.some.inj hd
    rw [ed] at el
    simp only [lcL] at el
    refine .inr ⟨go, fun H' => ∃ G' ρ' acc vacc, Same G G' ∧ Rep Z B G' H' (wipe σ own) ρ' ∧ H' D = some (.lst vacc) ∧ DenL Z G' vacc acc ∧ G' D = none ∧
      (∀ (i : Nat) (q : Addr) (c : OC), ρ'[i]? = some (some (SV.o c)) → (wipe σ own)[i]? = some (some (V.ref q)) → ¬ Fp H' q c D) ∧ lcL own gt t f (ds.drop (i + 1)) ρ' acc = some (ys, ρb), fun H' p => ⟨ds.length - (i + 1), by omega, rfl, by omega, p⟩, fun x H' y => ?_⟩
    obtain ⟨G2, gr, dx⟩ := yl x H' y
    obtain ⟨R3, s3⟩ := R2.grow gr
    have hD3 : H' D = some (.lst vacc) ∧ G2 D = none := by
      rcases gr with ⟨rfl, rfl⟩ | ⟨p, o, n, _, rfl, rfl⟩
      · exact ⟨hD, gD⟩
      · exact ⟨upd_keep n hD, by rw [upd_ne (ne_of_none hD n)]; exact gD⟩
    have oD3 : ∀ (i : Nat) (q : Addr) (c : OC), ρ'[i]? = some (some (SV.o c)) → (wipe σ own)[i]? = some (some (V.ref q)) → ¬ Fp H' q c D := by
      rcases gr with ⟨rfl, rfl⟩ | ⟨p, o, n, _, rfl, rfl⟩
      · exact oD
      · intro i q c h1 h2 f
        refine oD i q c h1 h2 ((Fp.keep fun a f' => ?_).mp f)
        exact upd_ne (R2.ownFree h1 h2 f' n)
    split at el
    · cases el
    · rename_i ρ2 hg
      -- the parts run over what stands now
      have Rb := R3.rebase
      have hio2 : (rb B G2 H' (L2.wipe σ own) ρ').io.map (·.1) = io := hio
      have keepD : ∀ {G' H'' : Hp} {σ' : L2.St} {ρ'' : Rho}, Rep Z (rb B G2 H' (wipe σ own) ρ') G' H'' σ' ρ'' → H'' D = some (.lst vacc) ∧ G' D = none ∧ ∀ (i : Nat) (q : Addr) (c : OC), ρ''[i]? = some (some (SV.o c)) → σ'[i]? = some (some (V.ref q)) → ¬ Fp H'' q c D := fun {G' H'' σ' ρ''} R => by
        have nS : ¬ (rb B G2 H' (wipe σ own) ρ').S D := fun ⟨i, p, c, a1, a2, a3⟩ => oD3 i p c a1 a2 a3
        refine ⟨R.fr D _ hD3.1 nS nt_lst, ?_, fun i q c a1 a2 a3 => ?_⟩
        · cases z : G' D with
          | none => rfl
          | some u =>
            rcases R.new D (by rw [z]; simp) with y | y | y
            · exact absurd hD3.2 y
            · exact absurd nt_lst (y _ hD3.1)
            · exact absurd y nS
        · rcases ((R.ownP a1 a2).2 D a3).2 with y | y
          · exact nS y
          · exact y _ hD3.1 nt_lst
      refine ⟨_, G2, ρ', d, ρ2, hio2, Rb, dx, hg, fun σ2 off R4 => ?_⟩
      have hw := wipe_off off hsub
      refine ⟨hw, ?_⟩
      split at el
      · rename_i b ρ3 ht
        refine ⟨_, G2, ρ2, hio2, R4, ?_⟩
        rw [ht]
        intro b' G5 H5 R5 s5 hb
        have hb : b' = b := hb
        subst hb
        have endT : ∀ {G' H'' : Hp} {ρ'' : Rho}, Rep Z (rb B G2 H' (wipe σ own) ρ') G' H'' σ2 ρ'' → Rep Z B G' H'' (wipe σ own) (wipeR ρ'' own) := fun {G' H'' ρ''} R => by
          have := (R3.unbase R).wipe hnoB
          rwa [hw] at this
        have ownW : ∀ {H'' : Hp} {ρ'' : Rho}, (∀ (i : Nat) (q : Addr) (c : OC), ρ''[i]? = some (some (SV.o c)) → σ2[i]? = some (some (V.ref q)) → ¬ Fp H'' q c D) → ∀ (i : Nat) (q : Addr) (c : OC), (wipeR ρ'' own)[i]? = some (some (SV.o c)) → (wipe σ own)[i]? = some (some (V.ref q)) → ¬ Fp H'' q c D := fun {H'' ρ''} h i q c a1 a2 => by
          obtain ⟨a3, a4⟩ := wipeR_some a1
          refine h i q c a3 ?_
          rw [← hw, wipe_not a4] at a2
          exact a2
        split
        · rename_i z
          rw [if_pos z] at el
          split at el
          · rename_i y ρ4 hf
            split at el
            · rename_i hlen
              refine ⟨_, G5, ρ3, hio2, R5, ?_⟩
              rw [hf]
              intro v G6 H6 R6 s6 dv
              have dv : Den Z G6 v y := dv
              obtain ⟨k1, k2, k3⟩ := keepD R6
              refine ⟨vacc, k1, by rw [DenL.length hacc]; exact hlen, G6, wipeR ρ4 own, acc ++ [y], vacc ++ [v], s1.trans (s3.trans R6.ext), ?_, upd_same, DenL.append (hacc.mono (s3.trans R6.ext)) (.one dv), k2, fun i q c a1 a2 a3 => ?_, el⟩
              · exact (endT R6).poke k1 k2 sD (ownW k3)
              · refine ownW k3 i q c a1 a2 ?_
                have a3 : Fp (upd H6 D (.lst (vacc ++ [v]))) q c D := a3
                exact a3
            · cases el
          · cases el
        · rename_i z
          rw [if_neg z] at el
          obtain ⟨k1, k2, k3⟩ := keepD R5
          exact ⟨G5, wipeR ρ3 own, acc, vacc, s1.trans (s3.trans R5.ext), endT R5, k1, hacc.mono (s3.trans R5.ext), k2, ownW k3, el⟩
      · cases el
  · have ei : i = ds.length := by omega
    subst ei
    rw [List.drop_length] at el
    simp only [lcL] at el
    cases el
    have R5 := Rep.restored (.inr ⟨H, R1⟩) s1 R2 hnoB
    refine .inl ⟨w1 rfl, fin D H1 G1 R5 s1 ⟨D, rfl, ⟨vacc, hD, hacc⟩, fun a f => ?_⟩⟩
    have f : a = D := f
    subst f
    refine ⟨gD, sD, fun i q c a1 a2 g => ?_⟩
    by_cases hi : i ∈ own
    · obtain ⟨x, h, _⟩ := restore_in hi a1
      cases h
    · rw [restore_not hi] at a1
      exact oD i q c a1 (by rw [wipe_not hi]; exact a2) g
section
variable {elt tg iter : Expr} {ifs : List Expr} {scope : Scope} {own : List (Str × Nat)} {it : M (List D)} {gt : GTm} {t : M Bool} {f : M D} {sl : List Nat}
theorem er_lc (hN : X.N.Nodup) (hi : EI X Z io W tg iter it) (ok : BlkOk X.N X.env.scope scope own) (hg : ∀ (s : Shared) (H : Hp) (C : Addr) (cl : List (Str × Addr)) (fp : List Addr), GT (X.blk s H scope (compEnvC scope cl C X.env) fp) Z io tg sl gt)
    (ht : ∀ (s : Shared) (H : Hp) (C : Addr) (cl : List (Str × Addr)) (fp : List Addr), ETs (X.blk s H scope (compEnvC scope cl C X.env) fp) Z io W0 ifs t) (he : ∀ (s : Shared) (H : Hp) (C : Addr) (cl : List (Str × Addr)) (fp : List Addr), EV (X.blk s H scope (compEnvC scope cl C X.env) fp) Z io W0 elt f)
    (hsub : ∀ j ∈ sl, j ∈ own.map (·.2) := by decide) (hno : ∀ j ∈ own.map (·.2), j ∉ io := by decide) (hc : X.calm = true := by rfl) (hs : ∀ x, foldedSetIterable iter X.env x = pure x := by intro _; rfl) :
    ER X Z io W (.ListComp elt [⟨tg, iter, ifs, 0⟩] scope pos) (mLc (own.map (·.2)) it gt t f) := by
  refine PE.imp (pe_lc hc hN hi ok hg ht he hs) fun σ H Q ⟨B, G, ρ, hio, R, k⟩ => ?_
  refine Kont.bind k hio R fun J H1 G1 ρ1 ds R1 s1 p1 k1 => ?_
  split at k1
  · rename_i ys ρ2 e
    exact lc_go hio R1 p1 e hsub hno fun D H' G' R' s' r' => k1.ok R' s' r'
  · exact k1.elim
/-- x = [..] -/
theorem ss_setLc (i : Nat) {y : Str} {py spos : Pos} (hN : X.N.Nodup) (hi : EI X Z io W tg iter it) (ok : BlkOk X.N X.env.scope scope own) (hg : ∀ (s : Shared) (H : Hp) (C : Addr) (cl : List (Str × Addr)) (fp : List Addr), GT (X.blk s H scope (compEnvC scope cl C X.env) fp) Z io tg sl gt)
    (ht : ∀ (s : Shared) (H : Hp) (C : Addr) (cl : List (Str × Addr)) (fp : List Addr), ETs (X.blk s H scope (compEnvC scope cl C X.env) fp) Z io W0 ifs t) (he : ∀ (s : Shared) (H : Hp) (C : Addr) (cl : List (Str × Addr)) (fp : List Addr), EV (X.blk s H scope (compEnvC scope cl C X.env) fp) Z io W0 elt f)
    (hy : X.N[i]? = some y := by rfl) (hyl : X.env.scope.names.lookup y = some .local := by rfl) (hsw : swapsWith (.ListComp elt [⟨tg, iter, ifs, 0⟩] scope pos) (some (.Name y py)) spos.line X.env = pure true := by exact sw_true rfl rfl rfl (by decide +kernel)) (hio' : i ∉ io := by decide)
    (hsub : ∀ j ∈ sl, j ∈ own.map (·.2) := by decide) (hno : ∀ j ∈ own.map (·.2), j ∉ io := by decide) (hc : X.calm = true := by rfl) (hs : ∀ x, foldedSetIterable iter X.env x = pure x := by intro _; rfl) :
    SS X Z io W (.Assign [.Name y py] (.ListComp elt [⟨tg, iter, ifs, 0⟩] scope pos) spos) (sSet i (mLc (own.map (·.2)) it gt t f)) := by
  refine PS.imp (ps_setLc hc hN hy hyl hsw hi ok hg ht he hs) fun E σ H ⟨B, G, ρ, hio, R, k⟩ => ?_
  have k' : SKont Z W B G E ((it ρ).thenS fun ds ρ1 => (match lcL (own.map (·.2)) gt t f ds (wipeR ρ1 (own.map (·.2))) [] with
    | some (ys, ρ2) => SO.nx ((restore ρ1 (own.map (·.2)) ρ2).set i (some (.o (.lst ys))))
    | none => .bad)) := by
    unfold sSet mLc at k
    cases ho : it ρ with
    | ok ds ρ1 =>
      rw [ho] at k
      simp only [Out.bind, Out.thenS] at k ⊢
      split at k <;> first | (rename_i h; split at h <;> first | (cases h; exact k) | cases h) | exact k
    | ex x ρ1 => rw [ho] at k; exact k
    | bad => rw [ho] at k; exact k
  refine SKont.expr k' hio R fun J H1 G1 ρ1 ds R1 s1 p1 k1 => ?_
  split at k1
  · rename_i ys ρ2 e
    exact lc_go (Q := fun x H1 => gName i x σ H1 E.nx) hio R1 p1 e hsub hno fun D H' G' R' s' r' => k1 _ G' H' (R'.set r' (by rw [hio]; exact hio')) s'
  · exact k1.elim
end

/-! ### raise -/
/-- a class of errors of the program without an __init__ of its own -/
structure ExcC (K : PySem.W.Frag) (mg : Str → Option Value) (x : Str) : Prop where
  ex : ∃ C, mg x = some (.ref C) ∧ PySem.W.excIn K C [.type "ValueError", .type "Exception", .type "BaseException", .type "object"] "ValueError.__new__" = true ∧ PySem.W.keepIn K (.ref C) = true ∧ PySem.W.subIn K (.ref C) (.type "BaseException") = some true ∧ PySem.W.typeIn K (.ref C) = some (.type "type")
theorem ss_raise {x m : Str} {j : Nat} {p p2 pos' : Pos} (E : ExcC X.K X.mg x) (tk : L2N.Takes X W) (hZ : Z.mg = X.mg := by rfl) (hc : X.calm = true := by rfl) (hg : Gl X x := by rfl) (hdb : (x == ("__debug__" : Str)) = false := by decide) :
    SS X Z io W (.Raise (some (.Call (.Name x p) [.Constant (.str m) j p2] [] pos')) none pos) (fun ρ => .ex ⟨x, none⟩ ρ) := by
  obtain ⟨C, h1, h2, h3, h4, h5⟩ := E.ex
  exact PS.imp (L2N.ps_raise hc tk (L2N.pmk_own PySem.F.excBase_ValueError h2 h1 h3 (raises_own h4 h5) hg hdb)) fun E σ H ⟨B, G, ρ, hio, R, k⟩ => k (.ref C) none σ G H R (Same.refl _) ⟨C, by rw [hZ]; exact h1, rfl, rfl⟩
end
end DL
/-! DL8: small words for the printed derivations. -/
namespace DL
open PySem PySem.Spec PyProof.Rows L2

theorem bt_ValueError : bootBuiltins "ValueError" = some (.type "ValueError") := by decide +kernel
theorem bt_int : bootBuiltins "int" = some (.type "int") := by decide +kernel
theorem bt_bool : bootBuiltins "bool" = some (.type "bool") := by decide +kernel
theorem bt_str : bootBuiltins "str" = some (.type "str") := by decide +kernel
theorem bt_tuple : bootBuiltins "tuple" = some (.type "tuple") := by decide +kernel
theorem bt_list : bootBuiltins "list" = some (.type "list") := by decide +kernel
theorem bt_dict : bootBuiltins "dict" = some (.type "dict") := by decide +kernel
theorem bt_set : bootBuiltins "set" = some (.type "set") := by decide +kernel
theorem bt_max : bootBuiltins "max" = some (.builtin "max") := by decide +kernel
theorem bt_min : bootBuiltins "min" = some (.builtin "min") := by decide +kernel
theorem bt_abs : bootBuiltins "abs" = some (.builtin "abs") := by decide +kernel
theorem bt_sum : bootBuiltins "sum" = some (.builtin "sum") := by decide +kernel
theorem bt_all : bootBuiltins "all" = some (.builtin "all") := by decide +kernel
theorem bt_any : bootBuiltins "any" = some (.builtin "any") := by decide +kernel
theorem bt_sorted : bootBuiltins "sorted" = some (.builtin "sorted") := by decide +kernel
/-- a def of the module as it stands behind the top -/
def FunAt (Z : Zx) (x : Str) (st : Stmt) (ps : List Str) : Prop := ∃ f fd, Fun Z.K x x st f fd ∧ Z.mg x = some (.ref f) ∧ Binds Z.K fd ps []
end DL
/-! DH1: ends of iterators while an exception is handled. -/
namespace DH
open PySem PySem.Spec PyProof.Rows L2 DL HotX
section
variable {prog : Program} {w : World} {A : Around} {E : Value → Shared → Prop} {s : Shared} {x1 : Addr}
theorem hotAt_keep {h h' : Heap} (k : ∀ b o, b ≠ 0 ∨ True → h.get? b = some o → h'.get? b = some o) (c : HotAt A x1 h) : HotAt A x1 h' := by
  obtain ⟨a, o, vs, h1, h2, h3⟩ := c
  exact ⟨a, o, vs, k _ _ (.inr trivial) h1, h2, h3⟩
/-- a new StopIteration raised there: it is chained to the handled one -/
theorem stop_hot {α : Type} {Q : α → Shared → Prop} (hot : HotAt A x1 s.heap)
    (hE : ∀ h' e, (∀ b o, s.heap.get? b = some o → h'.get? b = some o) → (∃ o, h'.get? e = some o ∧ o.cls = .type "StopIteration") → E (.ref e) { s with heap := h' }) :
    wpAny (model prog w) A (newExc (.type "StopIteration") [] >>= fun e => raiseNew e) Q E s := by
  obtain ⟨hh, o1, vs1, h1, d1, c1⟩ := hot
  refine wpAny_bind ?_
  simp only [newExc, newTuple]
  refine wpAny_bind (wpAny_newObj_type ?_ (by size_fits))
  refine wpAny_bind (m := firstArgMember _ _) (wpAny_of_eq (a := Value.none) (by first | rfl | (simp only [firstArgMember]; rfl)) ?_)
  refine wpAny_newObj_type ?_ (by size_fits)
  have g1 := Heap.get?_push_of_some { cls := .type "tuple", data := .seq #[] } h1
  refine raiseNew_hot (x1 := x1) ⟨hh, o1, vs1, Heap.get?_push_of_some _ g1, d1, c1⟩ (Nat.ne_of_lt (Heap.lt_size g1)) (Heap.get?_push_size _ rfl) rfl (by first | (simp; done) | (simp; omega)) ?_
  refine hE _ _ (fun b o e => ?_) ⟨_, Heap.get?_update_self _ (Heap.get?_push_size _ rfl) rfl, rfl⟩
  have g2 := Heap.get?_push_of_some { cls := .type "tuple", data := .seq #[] } e
  rw [Heap.get?_update_other _ _ (Nat.ne_of_gt (Heap.lt_size g2))]
  exact Heap.get?_push_of_some _ g2
theorem stopIt_hot {Q : Fin → Shared → Prop} (hot : HotAt A x1 s.heap)
    (hE : ∀ h' e, (∀ b o, s.heap.get? b = some o → h'.get? b = some o) → (∃ o, h'.get? e = some o ∧ o.cls = .type "StopIteration") → E (.ref e) { s with heap := h' }) :
    wpAny (model prog w) A Builtin.SmallTypes.stopIteration Q E s := stop_hot hot hE
/-- a tuple's iterator is at its end -/
theorem tup_end_hot {it t : Addr} {i : Nat} {items : Array Value} {Q : Option Value → Shared → Prop} (hot : HotAt A x1 s.heap) (hne : x1 ≠ it) (hit : IsTupIter s.heap it t i) (ht : IsTup s.heap t items) (hx : items[i]? = none)
    (hQ : ∀ h', (∀ b o, b ≠ it → s.heap.get? b = some o → h'.get? b = some o) → Q none { s with heap := h' }) : wpAny (model prog w) A (pyNext (.ref it)) Q E s := by
  obtain ⟨o, ho, hc, hd⟩ := id hit
  obtain ⟨ol, hol, _, nl, hdl⟩ := ht
  obtain ⟨hh, o1, vs1, h1, d1, c1⟩ := hot
  unfold pyNext
  refine wpAny_bind (wpAny_attempt (wpAny_callSpecial?_slot (name := Str.ofString "__next__") hit.typeIs slot_tupleiter_next (wpAny_call_entry slot_tupleiter_next hit.typeIs entry_tupleiter_next ?_ (args_tupleiter_next _))))
  refine wpAny_bind (m := field (.ref it) 0) (wpAny_field ho hd (x := .ref t) rfl ?_)
  refine (if_neg (c := (Value.ref t == Value.none) = true) Bool.false_ne_true).symm ▸ ?_
  refine wpAny_bind (m := field (.ref it) 1) (wpAny_field ho hd (x := .int i 0) rfl ?_)
  refine wpAny_bind (m := seqItems? (.ref t)) (wpAny_seqItems hol hdl ?_)
  simp only [Int.toNat_natCast, hx]
  refine wpAny_bind (wpAny_rule (wpAny_bind (wpAny_setField ho hd (by simp) ?_)))
  refine stopIt_hot (x1 := x1) ⟨hh, o1, vs1, (Heap.get?_update_other _ _ (Ne.symm hne)).trans h1, d1, c1⟩ fun h' e k he => ?_
  obtain ⟨oe, e1, e2⟩ := he
  refine wpAny_bind (wpAny_isInstance (T := "StopIteration") (b := true) ⟨oe, e1, e2⟩ isSubtype_stop ?_)
  exact wpAny_pure (hQ _ fun b o hb e => k b o ((Heap.get?_update_other _ _ (Ne.symm hb)).trans e))
/-- a, b = t -/
theorem unpack_hot {env : Env} {elts : List Expr} {k0 : Nat} {pos : Pos} {t : Addr} {items : Array Value} {Q : Unit → Shared → Prop} (hot : HotAt A x1 s.heap) (ht : IsTup s.heap t items) (hn : (assignEach elts env).length = items.size) (hstar : (assignEach elts env).findIdx? (·.1) = none)
    (h : ∀ h', (∀ b o, b ≠ s.heap.objs.size → s.heap.get? b = some o → h'.get? b = some o) → wpAny (model prog w) A (assignInOrder ((assignEach elts env).map (·.2)) items.toList) Q E { s with heap := h' }) :
    wpAny (model prog w) A (assign (.Tuple elts k0 pos) env (.ref t)) Q E s := by
  have nt : t ≠ s.heap.objs.size := by obtain ⟨o, ho, _⟩ := ht; exact Nat.ne_of_lt (Heap.lt_size ho)
  obtain ⟨hh, o1, vs1, g1, d1, c1⟩ := hot
  have n1 : x1 ≠ s.heap.objs.size := Nat.ne_of_lt (Heap.lt_size g1)
  rw [assign_Tuple]
  refine wpAny_bind (wpAny_standAt ?_)
  unfold unpack
  rw [hn, hstar]
  refine wpAny_bind (wpAny_holding ?_)
  unfold unpackItems notIterableAtAll
  refine wpAny_bind (wpAny_bind (wpAny_specialOf ht.typeIs slot_tuple_iter.lookup (wpAny_pure ?_)))
  simp only [Bool.false_eq_true, if_false]
  refine wpAny_bind (wpAny_holding (iter_tuple ht ?_))
  refine wpAny_bind (wpAny_holding (draw_tuple nt items.size 0 _ _ ⟨_, Heap.get?_push_size _ rfl, rfl, rfl⟩ (ht.push _) (by omega) fun h2 it2 sb => ?_))
  have whole : List.take items.size (List.drop 0 items.toList) = items.toList := by rw [List.drop_zero, List.take_of_length_le (by simp)]
  rw [whole, if_neg (by simp)]
  have old : ∀ b o, b ≠ s.heap.objs.size → s.heap.get? b = some o → h2.get? b = some o := fun b o hb e => (sb.2 b hb).trans (Heap.get?_push_of_some _ e)
  have t2 : IsTup h2 t items := (ht.push _).extBut sb.extBut nt
  refine wpAny_bind (wpAny_holding (tup_end_hot (x1 := x1) ⟨hh, o1, vs1, old _ _ n1 g1, d1, c1⟩ n1 it2 t2 (by simp) fun h3 k3 => ?_))
  simp only [Option.isSome_none, Bool.false_eq_true, if_false]
  exact wpAny_pure (h h3 fun b o hb e => k3 b o hb (old b o hb e))
/-- the end of a list that zip walks -/
theorem nextOf_end_hot {it l : Addr} {i : Nat} {items : Array Value} {Q : Value → Shared → Prop} (hot : HotAt A x1 s.heap) (hne : x1 ≠ it) (hit : s.heap.IsListIter it l i) (hl : s.heap.IsList l items) (hx : items[i]? = none)
    (hE : ∀ h' e, (∀ b o, b ≠ it → s.heap.get? b = some o → h'.get? b = some o) → (∃ o, h'.get? e = some o ∧ o.cls = .type "StopIteration") → E (.ref e) { s with heap := h' }) : wpAny (model prog w) A (Builtin.SmallTypes.nextOf (.ref it)) Q E s := by
  obtain ⟨o, ho, hc, hd⟩ := id hit
  obtain ⟨ol, hol, _, nl, hdl⟩ := hl
  obtain ⟨hh, o1, vs1, h1, d1, c1⟩ := hot
  unfold Builtin.SmallTypes.nextOf
  refine wpAny_bind (wpAny_callSpecial?_slot (name := Str.ofString "__next__") hit.typeIs slot_listiter_next (wpAny_call_entry slot_listiter_next hit.typeIs entry_listiter_next ?_ (args_listiter_next _)))
  refine wpAny_bind (m := field (.ref it) 0) (wpAny_field ho hd (x := .ref l) rfl ?_)
  refine (if_neg (c := (Value.ref l == Value.none) = true) Bool.false_ne_true).symm ▸ ?_
  refine wpAny_bind (m := field (.ref it) 1) (wpAny_field ho hd (x := .int i 0) rfl ?_)
  refine wpAny_bind (m := seqItems? (.ref l)) (wpAny_seqItems hol hdl ?_)
  simp only [Int.toNat_natCast, hx]
  refine wpAny_bind (wpAny_rule (wpAny_bind (wpAny_setField ho hd (by simp) ?_)))
  exact stopIt_hot (x1 := x1) ⟨hh, o1, vs1, (Heap.get?_update_other _ _ (Ne.symm hne)).trans h1, d1, c1⟩ fun h' e k he => hE h' e (fun b o hb e => k b o ((Heap.get?_update_other _ _ (Ne.symm hb)).trans e)) he
/-- zip of two lists: the first one is at its end -/
theorem zip_end_hot {z TI TO i1 i2 l1 l2 : Addr} {k1 : Nat} {xs : Array Value} {a b : Value} {Q : Option Value → Shared → Prop} (hot : HotAt A x1 s.heap) (hz1 : x1 ≠ z) (hi1 : x1 ≠ i1) (Ap : ZipApart z TI TO i1 i2 l1 l2)
    (hz : IsZip s.heap z TI TO .none) (hTI : IsPair s.heap TI (.ref i1) (.ref i2)) (hTO : IsPair s.heap TO a b) (h1 : s.heap.IsListIter i1 l1 k1) (hl1 : s.heap.IsList l1 xs) (hend : xs[k1]? = none)
    (hQ : ∀ h', (∀ c o, c ≠ z → c ≠ TO → c ≠ i1 → c ≠ i2 → s.heap.get? c = some o → h'.get? c = some o) → Q none { s with heap := h' }) : wpAny (model prog w) A (pyNext (.ref z)) Q E s := by
  have hT : s.TypeIs (.ref z) "zip" := ⟨_, hz, rfl⟩
  obtain ⟨hh, o1, vs1, g1, d1, c1⟩ := hot
  unfold pyNext
  refine wpAny_bind (wpAny_attempt (wpAny_callSpecial?_slot (name := Str.ofString "__next__") hT F.slot_zip_next (wpAny_call_entry F.slot_zip_next hT F.entry_zip_next ?_ (F.args_zip_next_1 _))))
  refine wpAny_bind (m := field (.ref z) 2) (wpAny_field hz rfl (x := .bool false) rfl ?_)
  refine wpAny_bind (m := field (.ref z) 3) (wpAny_field hz rfl (x := .ref TI) rfl ?_)
  refine wpAny_bind (wpAny_seqItems hTI rfl ?_)
  refine wpAny_bind (m := Builtin.SmallTypes.ownedTupleIsFree (.ref z)) ?_
  unfold Builtin.SmallTypes.ownedTupleIsFree
  refine wpAny_bind (wpAny_field hz rfl (x := .none) rfl (wpAny_pure ?_))
  simp only [if_true]
  refine wpAny_bind (wpAny_rule ?_)
  refine wpAny_bind (wpAny_field hz rfl (x := .ref TO) rfl ?_)
  refine wpAny_bind (wpAny_setField_rec hz (by simp) fun h2 hz2 sb2 => ?_)
  replace hz2 : IsZip h2 z TI TO .ellipsis := hz2
  refine wpAny_bind ?_
  simp only [List.zipIdx_cons, List.zipIdx_nil, List.forIn_cons, List.forIn_nil]
  refine wpAny_bind (wpAny_bind (wpAny_onRaise ?_))
  refine wpAny_bind (m := Builtin.SmallTypes.nextOf (.ref i1)) (nextOf_end_hot (x1 := x1) ⟨hh, o1, vs1, (sb2.2 _ hz1).trans g1, d1, c1⟩ hi1 (h1.extBut sb2.extBut Ap.i1z) (hl1.extBut sb2.extBut Ap.l1z) hend fun h3 e k3 he => ?_)
  obtain ⟨oe, e1, e2⟩ := he
  have hz3 : IsZip h3 z TI TO .ellipsis := k3 _ _ Ap.i1z.symm hz2
  have nez : e ≠ z := fun y => by subst y; rw [hz3] at e1; cases e1; simp at e2
  refine wpAny_setField_rec hz3 (by simp) fun h4 _ sb4 => ?_
  refine wpAny_bind (wpAny_isInstance (T := "StopIteration") (b := true) ⟨oe, (sb4.2 e nez).trans e1, e2⟩ isSubtype_stop ?_)
  exact wpAny_pure (hQ h4 fun c o n1 _ n3 _ y => (sb4.2 c n1).trans (k3 c o n3 ((sb2.2 c n1).trans y)))
end
end DH
/-! DH2: [word for word, good in zip(words, some) if good] while an exception is handled. -/
namespace DH
open PySem PySem.Spec PyProof.Rows L2 L2H DL HotX
/-- the items whose truth is told -/
def pickV {α : Type} : List α → List Bool → List α
  | x :: xs, b :: bs => if b = true then x :: pickV xs bs else pickV xs bs
  | _, _ => []
theorem pickV_snoc {α : Type} : ∀ {xs : List α} {bs : List Bool} {i : Nat} {x : α} {b : Bool}, xs[i]? = some x → bs[i]? = some b → pickV (xs.take (i + 1)) (bs.take (i + 1)) = pickV (xs.take i) (bs.take i) ++ (if b = true then [x] else [])
  | [], bs, i, x, b, h, _ => by simp at h
  | y :: xs, [], i, x, b, _, h => by simp at h
  | y :: xs, c :: bs, 0, x, b, h, h' => by
    simp at h h'
    subst h h'
    simp [pickV]
  | y :: xs, c :: bs, i + 1, x, b, h, h' => by
    have ih := pickV_snoc (xs := xs) (bs := bs) (i := i) (x := x) (b := b) (by simpa using h) (by simpa using h')
    simp only [List.take_succ_cons, pickV] at ih ⊢
    rw [ih]
    split <;> simp
theorem pickV_len {α : Type} : ∀ {xs : List α} {bs : List Bool}, (pickV xs bs).length ≤ xs.length
  | [], _ => by simp [pickV]
  | _ :: _, [] => by simp [pickV]
  | x :: xs, b :: bs => by
    have ih := pickV_len (xs := xs) (bs := bs)
    simp only [pickV]
    split <;> simp only [List.length_cons] <;> omega
/-- the reading -/
def tLcz (K : PySem.W.Frag) (ta : TA) : TE := fun σ H Q => ta σ H fun vs H1 => ∃ (a b : Addr) (xs : List V) (bs : List Bool), vs = [.ref a, .ref b] ∧ SqL K H1 a xs ∧ SqL K H1 b (bs.map V.bl) ∧ xs.length = bs.length ∧ xs.length < sizeLine ∧
  ∀ (H2 : Hp) (D : Addr), Same H1 H2 → H1 D = none → H2 D = some (.lst (pickV xs bs)) → Q (.ref D) H2
theorem pe_lczH {X : Cx} {x1 : Addr} {o1 : Obj} {w g : Str} {iw ig : Nat} {pw pw2 pg pg2 pt pz ptz pos : Pos} {k : Nat} {e1 e2 : Expr} {scope : Scope} {ta : TA} (hot : Hot1 X.A (x1, o1)) (hp : (x1, o1) ∈ X.pn) (hN : X.N.Nodup) (ok : BlkOk X.N X.env.scope scope [(w, iw), (g, ig)])
    (hgz : Gl X "zip") (hmz : X.mg "zip" = none) (ha : PA X [e1, e2] ta) (hw : (relS scope X.env.scope).names.lookup w = some .local) (hg : (relS scope X.env.scope).names.lookup g = some .local) (hlw : iw < X.N.length) (hlg : ig < X.N.length) (hne : iw ≠ ig)
    (dw : (w == ("__debug__" : Str)) = false := by decide) (cw : (w == ("__classdict__" : Str)) = false := by decide) (dg : (g == ("__debug__" : Str)) = false := by decide) (cg : (g == ("__classdict__" : Str)) = false := by decide)
    (hsz : starEach [e1, e2] X.env = (false, eval e1 X.env) :: starEach [e2] X.env := by rfl) (hpl : (backTo ptz (starEach [e2] X.env)).any (·.1) = false := by rfl)
    (hs : ∀ x, foldedSetIterable (.Call (.Name "zip" pz) [e1, e2] [] ptz) X.env x = pure x := by intro _; rfl) :
    PE X (.ListComp (.Name w pw) [⟨.Tuple [.Name w pw2, .Name g pg2] k pt, .Call (.Name "zip" pz) [e1, e2] [] ptz, [.Name g pg], 0⟩] scope pos) (tLcz X.K ta) := by
  refine ⟨fun pins s σ H Q I h => ?_⟩
  have hfree : ∀ y ∈ scope.names, y.2 = .free → ∃ c, X.env.cells.lookup y.1 = some c := fun y hy e => by
    rcases ok.free y hy e with k | k
    · exact I.ok.has _ (.inl k)
    · exact I.ok.has _ (.inr k)
  rw [eval_ListComp]
  refine wpAny_comprehension_free (use := none) rfl hs (closure_ok hfree) ok.kind (fun y hy e => by rw [ok.uniq y hy, e])
    (Call_ (ld_blt I hgz hmz PyProof.Rows.boot_zip (PyProof.Rows.callWith_type1 (thn (ha.run ptz pins s σ H _ I h) fun us s1 ⟨vs, H1, I1, r1, q1⟩ => ?_) hsz hpl)))
  obtain ⟨a, b, xs, bs, ex, hqx, hqy, hlen, hsl, q⟩ := q1
  subst ex
  cases r1 with
  | cons r rr =>
  cases rr with
  | cons r' rr =>
  cases rr
  cases r
  cases r'
  obtain ⟨its, rv, p1, _⟩ := I1.list hqx
  obtain ⟨its2, rv2, p2, _⟩ := I1.list hqy
  refine call_zip_2 p1.isList p2.isList fun h' hz hTI hTO h1 h2 hsz' hk => wpAny_pyIter_zip hz ?_
  have Ap := PySem.W.ktu_apart s1.heap.objs.size a b p1.lt p2.lt
  have fresh5 : ∀ c, c ∈ [s1.heap.objs.size + 4, s1.heap.objs.size + 2, s1.heap.objs.size + 3, s1.heap.objs.size, s1.heap.objs.size + 1] → FpOk X pins H1 c := fun c hcm => by
    have hle : s1.heap.objs.size ≤ c := by
      simp only [List.mem_cons, List.not_mem_nil, or_false] at hcm
      omega
    exact I1.fpOk hle (I1.hok.fresh hle)
  have P1 := I.pin (x1, o1) (List.mem_append_left _ hp)
  have nfs : x1 ∉ frs X.stack := fun hm => (List.mem_cons.mp (I.stkSub x1 hm)).elim P1.2.2.1 P1.2.2.2.1
  have T := turn_zip (P := X.prog) (w := X.w) (K := X.K) (elts := [.Name w pw2, .Name g pg2]) (kk := k) (tpos := pt) Ap
  generalize hzd : s1.heap.objs.size + 4 = z at hz Ap T fresh5 ⊢
  generalize hTId : s1.heap.objs.size + 2 = TI at hz hTI Ap T fresh5
  generalize hTOd : s1.heap.objs.size + 3 = TO at hz hTO Ap T fresh5
  generalize hi2d : s1.heap.objs.size + 1 = i2 at hTI h2 Ap T fresh5
  generalize hi1d : s1.heap.objs.size = i1 at hTI h1 Ap T fresh5
  generalize hfp : [z, TI, TO, i1, i2] = fp at T fresh5
  have nfp1 : ∀ c ∈ fp, x1 ≠ c := fun c hc => (fresh5 c hc).2.2.2.2.2 (x1, o1) (List.mem_append_left _ hp)
  have st0 : IsZip h' z TI TO .none ∧ IsPair h' TI (.ref i1) (.ref i2) ∧ (∃ x y, IsPair h' TO x y) ∧ h'.IsListIter i1 a 0 ∧ h'.IsListIter i2 b 0 := ⟨hz, hTI, ⟨_, _, hTO⟩, h1, h2⟩
  generalize htn : (fun (i : Nat) (h : Heap) => IsZip h z TI TO .none ∧ IsPair h TI (.ref i1) (.ref i2) ∧ (∃ x y, IsPair h TO x y) ∧ h.IsListIter i1 a i ∧ h.IsListIter i2 b i) = tn at T
  have I2 : Inv X pins σ H1 { s1 with heap := h' } := I1.kept (t' := s1.toks) hk
  generalize hs2 : ({ s1 with heap := h' } : Shared) = s2 at I2 ⊢
  have st2 : tn 0 s2.heap := by rw [← hs2, ← htn]; exact st0
  refine wpAny_newObj_type (newEnv_comp ?_) (by show 0 ≤ sizeLine; decide)
  generalize hD : s2.heap.objs.size = D
  have hDn : H1 D = none := I2.hok.fresh (Nat.le_of_eq hD)
  generalize hs3 : ({ s2 with heap := s2.heap.push { cls := .type "list", data := .seq ([] : List Value).toArray } } : Shared) = s3
  have I3 : Inv X pins σ (upd H1 D (.lst [])) s3 := by
    rw [← hs3]
    refine I2.laid (t' := s2.toks) (fun b o e => Heap.get?_push_of_some _ e) (Nat.le_of_eq hD) ⟨Nat.zero_le _, [], 0, .nil, ?_⟩
    rw [← hD]
    exact Heap.get?_push_size _ rfl
  have h3 : s3.heap = s2.heap.push { cls := .type "list", data := .seq ([] : List Value).toArray } := by rw [← hs3]
  have f3 : ∀ c ∈ fp, FpOk X pins (upd H1 D (.lst [])) c ∧ c < s3.heap.objs.size := fun c hc => by
    obtain ⟨o, e, _⟩ := T.obj _ _ st2 c hc
    have hlt := Heap.lt_size e
    refine ⟨⟨?_, (fresh5 c hc).2⟩, by rw [h3, Heap.size_push]; exact Nat.lt_succ_of_lt hlt⟩
    rw [upd_ne (by rw [← hD]; exact Nat.ne_of_lt hlt)]
    exact (fresh5 c hc).1
  have st3 : tn 0 s3.heap := T.keep _ _ _ st2 fun b _ o e => by rw [h3]; exact Heap.get?_push_of_some _ e
  have I4 := block_start I3 ok hN f3
  have x3 := I3.pin (x1, o1) (List.mem_append_left _ hp)
  have w0 : Same H1 (upd H1 D (.lst [])) := fun c u e => by rw [upd_ne (ne_of_none e hDn)]; exact e
  have d0 : upd H1 D (.lst []) D = some (.lst []) := upd_same
  have nfp : ∀ c ∈ fp, (upd H1 D (.lst [])) c = none := fun c hc => (f3 c hc).1.1
  show codeAny _ _ (.compStart (.ListComp (.Name w pw) [⟨.Tuple [.Name w pw2, .Name g pg2] k pt, .Call (.Name "zip" pz) [e1, e2] [] ptz, [.Name g pg], 0⟩] scope pos) 0 (.ref z) (.ref D) (compEnvC scope (cellsFrom (s3.heap.objs.size + 1) scope.names (cloFrom X.env.cells scope.names [])) s3.heap.objs.size X.env)) (compPost (model X.prog X.w) X.A X.xe none _ (.ref D) s3.heap.objs.size) { s3 with heap := pushCells (s3.heap.push { cls := .type "dict", data := .dict #[] }) scope.names }
  generalize hce : compEnvC scope (cellsFrom (s3.heap.objs.size + 1) scope.names (cloFrom X.env.cells scope.names [])) s3.heap.objs.size X.env = ce at I4 ⊢
  have cL : ce.locals = s3.heap.objs.size := by subst hce; rfl
  have cS : ce.scope = relS scope X.env.scope := by subst hce; rfl
  generalize hH3 : upd H1 D (.lst []) = H3 at I3 I4 w0 d0 nfp f3 x3
  generalize hs4 : ({ s3 with heap := pushCells (s3.heap.push { cls := .type "dict", data := .dict #[] }) scope.names } : Shared) = s4 at I4 ⊢
  have st4 : tn 0 s4.heap := T.keep _ _ _ st3 fun b _ o e => by rw [← hs4]; exact pushCells_keeps _ _ _ _ (Heap.get?_push_of_some _ e)
  generalize hB : (X.blk s3 H3 scope ce fp : Cx) = B at I4
  have stat : ∀ {σ' : L2.St} {H' : Hp} {s' : Shared}, Inv B [] σ' H' s' → (∀ c ∈ fp, H' c = none) → ∀ c ∈ fp, FpOk B [] H' c := by
    subst hB
    exact fun {σ' H' s'} I' hn b hb => ⟨hn b hb, (I'.ok.exf b hb).1, I'.ok.exfs b hb, .inl hb, fun x c e => (I'.ok.exf b hb).2 x c e, fun p hp => absurd (show p ∈ ([] : List (Addr × Obj)) ++ [] from hp) (by simp)⟩
  have hotA : ∀ {σ' : L2.St} {H' : Hp} {s' : Shared} {pl : List (Addr × Obj)}, Inv B pl σ' H' s' → HotAt X.A x1 s'.heap := by
    subst hB
    intro σ' H' s' pl I'
    obtain ⟨hh, v1, e1, c1⟩ := hot
    exact ⟨hh, o1, v1, I'.base.keep x1 o1 x3.1 x3.2.1 nfs (fun z => nfp1 x1 z rfl), e1, c1⟩
  have bA : B.A = X.A := by subst hB; rfl
  have bN : B.N = X.N := by subst hB; rfl
  have bP : B.prog = X.prog := by subst hB; rfl
  have bW : B.w = X.w := by subst hB; rfl
  have bK : B.K = X.K := by subst hB; rfl
  have bE : B.env = ce := by subst hB; rfl
  have bX : B.xe = fun _ _ => False := by subst hB; rfl
  have pgw : PG B (.Name w pw2) (gName iw) := by
    subst hB
    exact pg_name hN (ok.ix (w, iw) (by simp)) (.inl (show ce.scope.names.lookup w = _ by rw [cS]; exact hw)) (.inr (show ce.scope.names.lookup w = _ by rw [cS]; exact hw))
  have pgg : PG B (.Name g pg2) (gName ig) := by
    subst hB
    exact pg_name hN (ok.ix (g, ig) (by simp)) (.inl (show ce.scope.names.lookup g = _ by rw [cS]; exact hg)) (.inr (show ce.scope.names.lookup g = _ by rw [cS]; exact hg))
  have pt' : PT B (.Name g pg) (tB (tVar ig)) := by
    subst hB
    exact pt_val (pe_var (ok.ix (g, ig) (by simp)) (.inl (show ce.scope.names.lookup g = _ by rw [cS]; exact hg)) dg cg)
  have pe' : PE B (.Name w pw) (tVar iw) := by
    subst hB
    exact pe_var (ok.ix (w, iw) (by simp)) (.inl (show ce.scope.names.lookup w = _ by rw [cS]; exact hw)) dw cw
  have lenS : ∀ {σ' : L2.St} {H' : Hp} {s' : Shared} {pl : List (Addr × Obj)}, Inv B pl σ' H' s' → σ'.length = X.N.length := fun I' => I'.len.trans (by rw [bN])
  have back : ∀ {H5 : Hp} {s6 : Shared}, Inv B [] (wipe σ [iw, ig]) H5 s6 → Inv X pins σ H5 s6 ∧ FpOk X pins H5 s3.heap.objs.size ∧ ∃ m, s6.heap.Ns s3.heap.objs.size m := by
    subst hB
    intro H5 s6 I6
    have I7 : Inv X pins σ H5 s6 := I3.call' (ch := fp) I6.os I6.base I6.hok I6.bare fun b hb => ⟨(f3 b hb).1.2.2.2.1, (f3 b hb).1.2.1, (f3 b hb).1.2.2.2.2.1, (f3 b hb).1.2.2.2.2.2⟩
    have nC : H5 s3.heap.objs.size = none := by
      have z : H5 ce.locals = none := I6.free
      rw [cL] at z
      exact z
    obtain ⟨m, hn, _⟩ := I6.loc
    have hn : s6.heap.Ns ce.locals m := hn
    rw [cL] at hn
    exact ⟨I7, I3.fpOk (Nat.le_refl _) nC, m, hn⟩
  rw [show ([(w, iw), (g, ig)] : List (Str × Nat)).map (·.2) = [iw, ig] from rfl] at I4
  rw [← bA, ← bP, ← bW]
  rw [← bP, ← bW] at T
  have loop : codeAny (model B.prog B.w) B.A (.compLoop (.ListComp (.Name w pw) [⟨.Tuple [.Name w pw2, .Name g pg2] k pt, .Call (.Name "zip" pz) [e1, e2] [] ptz, [.Name g pg], 0⟩] scope pos) 0 (.ref z) (.ref D) ce) (compPost (model B.prog B.w) B.A X.xe none (fun v s' => EP X pins σ Q v s') (.ref D) s3.heap.objs.size) s4 := by
    refine compLoop_any (fun n s' => ∃ i H', n = xs.length - i ∧ i ≤ xs.length ∧ Inv B [] (wipe σ [iw, ig]) H' s' ∧ tn i s'.heap ∧ (∀ c ∈ fp, H' c = none) ∧ Same H1 H' ∧ H' D = some (.lst (pickV (xs.take i) (bs.take i)))) ?_ xs.length ⟨0, H3, rfl, Nat.zero_le _, I4, st4, nfp, w0, d0⟩
    rintro n s5 ⟨i, H5, rfl, hi, I5, st5, n5, w5, d5⟩
    have st5' := st5
    rw [← htn] at st5'
    obtain ⟨hz5, hTI5, ⟨x0, y0, hTO5⟩, h15, h25⟩ := st5'
    have hqx5 : SqL B.K H5 a xs := by rw [bK]; exact Same.seq w5 hqx
    have hqy5 : SqL B.K H5 b (bs.map V.bl) := by rw [bK]; exact Same.seq w5 hqy
    obtain ⟨jts, rv5, q5, _⟩ := I5.list hqx5
    obtain ⟨jts2, rv52, q52, _⟩ := I5.list hqy5
    have hot5 : HotAt B.A x1 s5.heap := by rw [bA]; exact hotA I5
    have lz : x1 ≠ z := nfp1 z (by rw [← hfp]; simp)
    have li1 : x1 ≠ i1 := nfp1 i1 (by rw [← hfp]; simp)
    by_cases hlt : i < xs.length
    · have hx : xs[i]? = some xs[i] := List.getElem?_eq_getElem hlt
      have hlb : i < bs.length := by omega
      have hb : bs[i]? = some bs[i] := List.getElem?_eq_getElem hlb
      obtain ⟨u, hu, ru⟩ := rv5.get hx
      obtain ⟨u2, hu2, ru2⟩ := rv52.get (show (bs.map V.bl)[i]? = some (V.bl bs[i]) by rw [List.getElem?_map, hb]; rfl)
      have hzl : z < s5.heap.objs.size := Heap.lt_size hz5
      refine wpAny_pyNext_zip_item Ap hz5 hTI5 hTO5 h15 h25 q5.isList q52.isList (x := u) (y := u2) (by simpa using hu) (by simpa using hu2) fun h' z' TO' h1' h2' hT hsz hk => ?_
      refine wpAny_letOwnedTupleGo_zip (s := { s5 with heap := h' }) z' fun h'' z'' sb => ?_
      have hT2 : h''.get? s5.heap.objs.size = some { cls := .type "tuple", data := .seq #[u, u2] } := (sb.2 _ (Nat.ne_of_gt hzl)).trans hT
      have new : ObjOk B.prog B.w (upd H5 s5.heap.objs.size (.tup [xs[i], V.bl bs[i]])) h'' s5.heap.objs.size (.tup [xs[i], V.bl bs[i]]) :=
        ⟨by show 2 ≤ sizeLine; decide, [u, u2], .cons ru (.cons ru2 .nil), ⟨_, hT2, rfl, _, rfl⟩⟩
      have mz : ∀ {c}, c ∉ fp → c ≠ z ∧ c ≠ TO ∧ c ≠ i1 ∧ c ≠ i2 := fun {c} hb => by
        rw [← hfp] at hb
        exact ⟨fun q' => hb (by simp [q']), fun q' => hb (by simp [q']), fun q' => hb (by simp [q']), fun q' => hb (by simp [q'])⟩
      have I7 : Inv B [] (wipe σ [iw, ig]) (upd H5 s5.heap.objs.size (.tup [xs[i], V.bl bs[i]])) { s5 with heap := h'' } :=
        I5.turnedNew (t' := s5.toks) (ch := fp) (fun c o hb q => (sb.2 c (mz hb).1).trans (hk c o (mz hb).1 (mz hb).2.1 (mz hb).2.2.1 (mz hb).2.2.2 q)) (stat I5 n5) (Nat.le_refl _) new
      have st7 : tn (i + 1) h'' := by
        rw [← htn]
        exact ⟨z'', (sb.2 _ Ap.TIz).trans (hk _ _ Ap.TIz Ap.TITO Ap.TIi1 Ap.TIi2 hTI5), ⟨u, u2, (sb.2 _ Ap.TOz).trans TO'⟩, h1'.at fun o q => (sb.2 _ Ap.i1z).trans q, h2'.at fun o q => (sb.2 _ Ap.i2z).trans q⟩
      have n7 : ∀ c ∈ fp, (upd H5 s5.heap.objs.size (.tup [xs[i], V.bl bs[i]])) c = none := fun c hc => by
        obtain ⟨o, e, _⟩ := T.obj _ _ st5 c hc
        rw [upd_ne (Nat.ne_of_lt (Heap.lt_size e))]
        exact n5 c hc
      have nT : H5 s5.heap.objs.size = none := I5.hok.fresh (Nat.le_refl _)
      have I7' := I7.pinned (stat I7 n7) (T.obj _ _ st7)
      have hot7 : HotAt B.A x1 h'' := by rw [bA]; exact hotA I7
      generalize hH7 : upd H5 s5.heap.objs.size (.tup [xs[i], V.bl bs[i]]) = H7 at I7 I7' n7
      have s57 : Same H5 H7 := by rw [← hH7]; exact same_upd nT
      have wE : ∀ {e : Expr}, eval e ce = eval e B.env := fun {e} => by rw [bE]
      refine unpack_hot (x1 := x1) (s := { s5 with heap := h'' }) (items := #[u, u2]) hot7 ⟨_, hT2, rfl, _, rfl⟩ rfl rfl fun h8 k8 => ?_
      have I8 : Inv B ([] ++ pinsAt fp h'') (wipe σ [iw, ig]) H7 { s5 with heap := h8 } := I7'.kept (t' := s5.toks) fun c o e => k8 c o (Nat.ne_of_lt (Heap.lt_size e)) e
      have pgs := pgs_cons pgw (pgs_cons pgg pgs_nil)
      have lS : (wipe σ [iw, ig]).length = X.N.length := lenS I8
      have r := pgs.run _ _ _ H7 [xs[i], V.bl bs[i]] [u, u2] (fun σ' H' => σ' = ((wipe σ [iw, ig]).set iw (some xs[i])).set ig (some (V.bl bs[i])) ∧ H' = H7) I8 (.cons ru (.cons ru2 .nil)) ⟨_, _, rfl, ⟨_, _, rfl, rfl, rfl, rfl⟩⟩
      rw [bX, bE] at r
      refine thnF r fun _ s8 hs8 => ?_
      obtain ⟨σ8, H8, J8, e8, eH8⟩ := hs8
      subst eH8
      have gw : σ8[iw]? = some (some xs[i]) := by
        rw [e8, getElem?_set', if_neg (Ne.symm hne), getElem?_set', if_pos rfl, if_pos (by rw [lS]; exact hlw)]
      have gg : σ8[ig]? = some (some (V.bl bs[i])) := by
        rw [e8, getElem?_set', if_pos rfl, if_pos (by rw [List.length_set, lS]; exact hlg)]
      have hw8 : ∀ (j : Nat) (v : V), (wipe σ [iw, ig])[j]? = some (some v) → σ8[j]? = some (some v) := fun j v e => by
        have := (wipe_some e).2
        simp only [List.mem_cons, List.not_mem_nil, or_false, not_or] at this
        rw [e8, getElem?_set', if_neg (Ne.symm this.2), getElem?_set', if_neg (Ne.symm this.1)]
        exact e
      have l8 : (wipe σ [iw, ig]).length = σ8.length := by rw [e8, List.length_set, List.length_set]
      have r := pt'.run _ s8 σ8 H8 (fun bb H' => bb = bs[i] ∧ H' = H8) J8 ⟨_, gg, bs[i], rfl, rfl, rfl⟩
      rw [bX, bE] at r
      refine thnF (wpAny_tests_one r) fun bb s9 hs9 => ?_
      obtain ⟨H9, J9, eb, e9⟩ := hs9
      subst e9 eb
      have fin : ∀ {s' : Shared} {H' : Hp}, Inv B ([] ++ pinsAt fp h'') σ8 H' s' → Same H1 H' → H' D = some (.lst (pickV (xs.take (i + 1)) (bs.take (i + 1)))) → ∃ m, m < xs.length - i ∧ ∃ i H', m = xs.length - i ∧ i ≤ xs.length ∧ Inv B [] (wipe σ [iw, ig]) H' s' ∧ tn i s'.heap ∧ (∀ c ∈ fp, H' c = none) ∧ Same H1 H' ∧ H' D = some (.lst (pickV (xs.take i) (bs.take i))) := fun {s' H'} I' sm dd => by
        have pin' : ∀ c ∈ fp, ∀ o, h''.get? c = some o → s'.heap.get? c = some o ∧ H' c = none := fun c hc o e =>
          let z := I'.pin (c, o) (List.mem_append_right _ (List.mem_append_right _ (mem_pinsAt hc e)))
          ⟨z.1, z.2.1⟩
        refine ⟨xs.length - (i + 1), by omega, i + 1, H', rfl, by omega, (I'.unpinned (pins := [])).weak l8 hw8, T.keep _ _ _ st7 fun c hc o e => (pin' c hc o e).1, fun c hc => ?_, sm, dd⟩
        obtain ⟨o, e, _⟩ := T.obj _ _ st7 c hc
        exact (pin' c hc o e).2
      have nDT : D ≠ s5.heap.objs.size := ne_of_none d5 nT
      have d9 : H9 D = some (.lst (pickV (xs.take i) (bs.take i))) := s57 _ _ d5
      rw [pickV_snoc hx hb] at fin
      by_cases hbt : bs[i] = true
      · rw [if_pos hbt]
        have r := pe'.run _ s9 σ8 H9 (fun y H' => y = xs[i] ∧ H' = H9) J9 ⟨_, gw, rfl, rfl⟩
        rw [bX, bE] at r
        refine thnF r fun zv s10 hs10 => ?_
        obtain ⟨yv, H10, J10, r10, ey, e10⟩ := hs10
        subst e10 ey
        refine app_ok (X := B) J10 d9 (Nat.lt_of_le_of_lt (Nat.le_trans pickV_len (by rw [List.length_take]; exact Nat.min_le_right _ _)) hsl) r10 fun s11 J11 => fin J11 (fun c u e => ?_) (by rw [upd_same, if_pos hbt])
        rw [upd_ne (ne_of_none e hDn)]
        exact s57 _ _ (w5 _ _ e)
      · rw [if_neg hbt]
        exact fin J9 (w5.trans s57) (by rw [d9, if_neg hbt, List.append_nil])
    · have ei : i = xs.length := by omega
      have hend : jts.toArray[i]? = none := by
        have := rv5.length
        simp; omega
      refine zip_end_hot (x1 := x1) hot5 lz li1 Ap hz5 hTI5 hTO5 h15 q5.isList hend fun h6 k6 => ?_
      have I6 : Inv B [] (wipe σ [iw, ig]) H5 { s5 with heap := h6 } := I5.turnedL (t' := s5.toks) (ch := fp) (fun c o hb q => by
        rw [← hfp] at hb
        exact k6 c o (fun q' => hb (by simp [q'])) (fun q' => hb (by simp [q'])) (fun q' => hb (by simp [q'])) (fun q' => hb (by simp [q'])) q) (stat I5 n5)
      obtain ⟨I7, f7, m, hn⟩ := back I6
      refine ⟨m, hn, fun h'' sb => ?_⟩
      obtain ⟨f0, f1, f2, f3, f4, f5⟩ := f7
      refine ⟨.ref D, H5, I7.turned (t' := s5.toks) (fun b o hb e => (sb.2 b hb).trans e) f0 f1 f3 f4 f5, rfl, q H5 D w5 hDn ?_⟩
      rw [d5, ei, List.take_length, hlen, List.take_length]
  exact codeAny_compStart_list loop (T.self _ 0 _ _ _ st4 loop)
end DH
/-! DH3: what a handled exception is; a def that is told it. -/
namespace DH
open PySem PySem.Spec PyProof.Rows L2 L2H DL HotX
def kindNames : List Str := ["InvalidHappening", "InvalidHouse", "InvalidNumber", "InvalidPlace", "InvalidRow", "InvalidRule", "NoText", "NothingToUndo", "TooMany"]
/-- what the class x of errors, at C, answers -/
structure KF (Z : Zx) (x : Str) (C : Addr) : Prop where
  name : Z.mg x = some (.ref C)
  exc : L2.ExcC Z.K C
  own : ∀ y ∈ kindNames, ∃ C', Z.mg y = some (.ref C') ∧ PySem.W.kitOne Z.K (.ref C) (.ref C') = some (y == x)
  val : PySem.W.kitOne Z.K (.ref C) (.type "ValueError") = some true
  tm : ∃ T, Z.mg "TooMany" = some (.ref T) ∧ PySem.W.exmOne Z.K (.ref C) (.ref T) = some false
  le : ∃ T, Z.mg "LookError" = some (.ref T) ∧ PySem.W.exmOne Z.K (.ref C) (.ref T) = some true
theorem KF.at {Z : Zx} {x : Str} {C a : Addr} (h : KF Z x C) : KF { Z with ea := a } x C := ⟨h.name, h.exc, h.own, h.val, h.tm, h.le⟩
section
variable {X : Cx} {Z : Zx} {io : List Nat} {W : WX} {C : Addr} {oe : Obj}
theorem call_isP (hp : (Z.ea, oe) ∈ X.pn) (F : L2.ExcC X.K C) (hz : Zc (.ref C) none oe) (hf : ∃ vs, oe.data = .fields vs) : CallR X (.builtin "isinstance") (rIsE X.K C Z.ea) := by
  intro pins s σ H xs us Q I r h
  obtain ⟨c, cv, b, rfl, hcv, e, q⟩ := h
  cases r with
  | cons rx rr =>
    cases rr with
    | cons rt rr =>
      cases rr
      cases rx
      cases hcv _ rt
      obtain ⟨hget, _⟩ := I.pin (Z.ea, oe) (List.mem_append_left _ hp)
      obtain ⟨vs, hv⟩ := hf
      have J : PySem.W.InstAt s.heap Z.ea oe C none := by
        obtain ⟨oc, od, oda, osl⟩ := oe
        obtain ⟨h1, h2⟩ := hz
        dsimp only at h1 h2 hv
        subst h1 h2 hv
        exact ⟨hget, rfl, rfl, trivial⟩
      exact PySem.W.kia_one (PySem.W.handS_kitx_exc F.hg F.hk F.hs F.hd F.ha F.hn F.ht F.hm) I.kIn J e (fun z => nomatch z) fun tk => ⟨.bl b, H, I.kept (t' := tk) fun _ _ z => z, rfl, q⟩
def mIsE (b : Bool) (fe : M D) : M D := fun ρ => (fe ρ).bind fun d ρ1 => match d with
  | .exc => .ok (.bl b) ρ1
  | _ => .bad
variable {e : Expr} {fe : M D} {p p2 pos : Pos} {x y : Str}
theorem ev_isE {c : V} {cv : Value} {b : Bool} (hp : (Z.ea, oe) ∈ X.pn) (F : L2.ExcC X.K C) (hz : Zc (.ref C) none oe) (hf : ∃ vs, oe.data = .fields vs) (hm : X.mg "isinstance" = none) (hy : PE X (.Name y p2) (tC c)) (hcv : ∀ u, RelV c u → u = cv) (hk : PySem.W.kitOne X.K (.ref C) cv = some b)
    (ha : EV X Z io W e fe) (hg : Gl X "isinstance") (he : starEach [e, .Name y p2] X.env = (false, eval e X.env) :: starEach [.Name y p2] X.env) (he2 : starEach [.Name y p2] X.env = (false, eval (.Name y p2) X.env) :: starEach [] X.env) (hpl : (backTo pos (starEach [.Name y p2] X.env)).any (·.1) = false) :
    EV X Z io W (.Call (.Name "isinstance" p) [e, .Name y p2] [] pos) (mIsE b fe) := by
  refine PE.imp (pe_callB (call_isP hp F hz hf) hg hm boot_isinstance (pa_cons ha (pa_cons hy pa_nil he2) he) (by decide) (by decide) he hpl) fun σ H Q ⟨B, G, ρ, hio, R, k⟩ => ?_
  refine Kont.bind k hio R fun v H1 G1 ρ1 d R1 s1 p1 k1 => ?_
  cases p1 with
  | exc => exact ⟨c, cv, b, rfl, hcv, hk, k1.ok R1 (Same.refl _) (.bl b)⟩
  | _ => exact k1.elim
/-- isinstance(e, an error of the program) -/
theorem ev_isO (hp : (Z.ea, oe) ∈ X.pn) (F : KF Z x C) (hz : Zc (.ref C) none oe) (hf : ∃ vs, oe.data = .fields vs) (N : Nb Z.mg) (ha : EV X Z io W e fe) (hy : y ∈ kindNames := by decide) (hZ : Z.K = X.K ∧ Z.mg = X.mg := by exact ⟨rfl, rfl⟩) (hgy : Gl X y := by rfl) (hg : Gl X "isinstance" := by rfl) (hdb : (y == ("__debug__" : Str)) = false := by decide)
    (he : starEach [e, .Name y p2] X.env = (false, eval e X.env) :: starEach [.Name y p2] X.env := by rfl) (he2 : starEach [.Name y p2] X.env = (false, eval (.Name y p2) X.env) :: starEach [] X.env := by rfl) (hpl : (backTo pos (starEach [.Name y p2] X.env)).any (·.1) = false := by rfl) :
    EV X Z io W (.Call (.Name "isinstance" p) [e, .Name y p2] [] pos) (mIsE (y == x) fe) := by
  obtain ⟨C', h1, h2⟩ := F.own y hy
  exact ev_isE hp (hZ.1 ▸ F.exc) hz hf (hZ.2 ▸ N.isinstance) (pe_glob (v := .ref C') hgy (hZ.2 ▸ h1) rfl hdb) (fun u r => r) (hZ.1 ▸ h2) ha hg he he2 hpl
/-- isinstance(e, ValueError) -/
theorem ev_isV (hp : (Z.ea, oe) ∈ X.pn) (F : KF Z x C) (hz : Zc (.ref C) none oe) (hf : ∃ vs, oe.data = .fields vs) (N : Nb Z.mg) (ha : EV X Z io W e fe) (hZ : Z.K = X.K ∧ Z.mg = X.mg := by exact ⟨rfl, rfl⟩) (hgy : Gl X "ValueError" := by rfl) (hg : Gl X "isinstance" := by rfl)
    (he : starEach [e, .Name "ValueError" p2] X.env = (false, eval e X.env) :: starEach [.Name "ValueError" p2] X.env := by rfl) (he2 : starEach [.Name "ValueError" p2] X.env = (false, eval (.Name "ValueError" p2) X.env) :: starEach [] X.env := by rfl) (hpl : (backTo pos (starEach [.Name "ValueError" p2] X.env)).any (·.1) = false := by rfl) :
    EV X Z io W (.Call (.Name "isinstance" p) [e, .Name "ValueError" p2] [] pos) (mIsE true fe) :=
  ev_isE hp (hZ.1 ▸ F.exc) hz hf (hZ.2 ▸ N.isinstance) (pe_bltn (v := .ty "ValueError") hgy (hZ.2 ▸ N.val) bt_ValueError rfl) (fun u r => r) (hZ.1 ▸ F.val) ha hg he he2 hpl

/-! ### the comprehension over zip -/
theorem denL_pick {G : Hp} : ∀ {vs : List V} {ds : List D} {bs : List Bool}, DenL Z G vs ds → DenL Z G (pickV vs bs) (pickV ds bs)
  | _, _, _, .nil => by simp only [pickV]; exact .nil
  | _, _, [], .cons h t => by simp only [pickV]; exact .nil
  | _, _, b :: bs, .cons h t => by
    simp only [pickV]
    split
    · exact .cons h (denL_pick t)
    · exact denL_pick t
def mLcz (fs : M (List D)) : M SV := fun ρ => (fs ρ).bind fun l ρ1 => match l with
  | [.lst ds, .lst es] => match bls? es with
    | some bs => if ds.length = bs.length ∧ ds.length < sizeLine then .ok (.o (.lst (pickV ds bs))) ρ1 else .bad
    | none => .bad
  | _ => .bad
theorem er_lczH {w g : Str} {pw pw2 pg pg2 pt pz ptz : Pos} {k : Nat} {e1 e2 : Expr} {scope : Scope} {fs : M (List D)} (hot : Hot1 X.A (Z.ea, oe)) (hp : (Z.ea, oe) ∈ X.pn) (hN : X.N.Nodup) (iw ig : Nat) (ok : BlkOk X.N X.env.scope scope [(w, iw), (g, ig)])
    (hmz : X.mg "zip" = none) (ha : EL X Z io W [e1, e2] fs) (hK : X.K = Z.K := by rfl) (hgz : Gl X "zip" := by rfl) (hw : (relS scope X.env.scope).names.lookup w = some .local := by rfl) (hg : (relS scope X.env.scope).names.lookup g = some .local := by rfl) (hne : iw ≠ ig := by decide)
    (dw : (w == ("__debug__" : Str)) = false := by decide) (cw : (w == ("__classdict__" : Str)) = false := by decide) (dg : (g == ("__debug__" : Str)) = false := by decide) (cg : (g == ("__classdict__" : Str)) = false := by decide)
    (hsz : starEach [e1, e2] X.env = (false, eval e1 X.env) :: starEach [e2] X.env := by rfl) (hpl : (backTo ptz (starEach [e2] X.env)).any (·.1) = false := by rfl)
    (hs : ∀ x, foldedSetIterable (.Call (.Name "zip" pz) [e1, e2] [] ptz) X.env x = pure x := by intro _; rfl) :
    ER X Z io W (.ListComp (.Name w pw) [⟨.Tuple [.Name w pw2, .Name g pg2] k pt, .Call (.Name "zip" pz) [e1, e2] [] ptz, [.Name g pg], 0⟩] scope pos) (mLcz fs) := by
  refine PE.imp (pe_lczH hot hp hN ok hgz hmz ha hw hg (List.getElem?_eq_some_iff.mp (ok.ix (w, iw) (by simp))).1 (List.getElem?_eq_some_iff.mp (ok.ix (g, ig) (by simp))).1 hne dw cw dg cg hsz hpl hs) fun σ H Q ⟨B, G, ρ, hio, R, k⟩ => ?_
  refine Kont.bind k hio R fun vs H1 G1 ρ1 ds R1 s1 p1 k1 => ?_
  split at k1
  · rename_i ds es
    cases p1 with
    | cons q1 p1 =>
    cases p1 with
    | cons q2 p1 =>
    cases p1
    cases q1 with
    | lst h1 t1 =>
    cases q2 with
    | lst h2 t2 =>
    rename_i a xs b ys
    split at k1
    · rename_i bs hb
      split at k1
      · rename_i hl
        have l1 := DenL.length t1
        have e2 := vals_bls? t2 hb
        subst e2
        refine ⟨a, b, xs, bs, rfl, SqL.of (R1.sub _ _ h1), SqL.of (R1.sub _ _ h2), by rw [l1]; exact hl.1, by rw [l1]; exact hl.2, fun H2 D sm nD hD => ?_⟩
        have R2 := R1.ext0 sm
        refine k1.ok R2 (Same.refl _) ⟨D, rfl, ⟨_, hD, denL_pick t1⟩, fun a f => ?_⟩
        have f' : a = D := f
        subst f'
        refine ⟨R1.freeG nD, R1.free0 nD, fun i q d e1 e2 g => ?_⟩
        exact R1.ownFree e1 e2 (show Fp H1 q d a from g) nD rfl
      · exact k1.elim
    · exact k1.elim
  · exact k1.elim
end

/-! ### a def that is called while an exception is handled -/
theorem run_hotD {P : Program} {w : World} {Z : Zx} {base : Heap} {x qual : Str} {st : Stmt} {f : Addr} {fd : FuncData} {N ps : List Str} {k : Nat} {ioI : List Nat} {g : SM} (F : Fun Z.K x qual st f fd) (S : FnScope N ps (defScope st)) (hb : Binds Z.K fd ps []) {p : Addr × Obj}
    (hbody : ∀ (cdv : Value) (A : Around) (outer : List Env) (s : Shared) (H : Hp) (E : XK), Hot1 A p →
      SB (cxH (L2N.CX P w) P w Z.K Z.mg base N qual (defScope st) f cdv A outer s H E p) Z ioI (fun cls d _ H => E cls d H) (defBody st) g)
    {A : Around} {outer : List Env} {s : Shared} {H : Hp} {us : List Value} {vs : List V} {Q : VK} {E : XK} (hr : A.depth < recursionLimit) (hot : Hot1 A p) (hpin : PinOk outer H s p) (e0 : Env0 P w Z.K Z.mg base A outer s H) (r : Vals vs us) (hsp : spD Z ioI (mDef N.length ps.length g) vs H Q E) :
    codeAny (model P w) A (.call (.ref f) ⟨us, []⟩) (CR (L2N.CX P w) outer P w H s Q E) s := by
  have hl := spD_len hsp
  have KX : Z.K.In s.heap := e0.mod.kin.keeps fun b o e => (e0.bs b o e).1
  have lim : s.heap.NoLimit := e0.mod.nolimit.keeps fun b o e => (e0.bs b o e).1
  have hbind := hb s us KX (by rw [List.append_nil, ← r.length]; exact hl)
  rw [List.append_nil] at hbind
  obtain ⟨_, _, _, _, _, _, cdv, _, _, rfl, lk, hcd⟩ := F.ex
  have hkind : ∀ y ∈ ps.zip us, (defScope st).names.lookup y.1 = some .local ∨ ((defScope st).names.lookup y.1 = some .cell ∧ ((cellsFrom (s.heap.objs.size + 1) (defScope st).names []).lookup y.1).isSome = true) := fun ⟨n, v⟩ hy => by
    rcases S.par n (List.of_mem_zip hy).1 with q | q
    · exact .inl q
    · exact .inr ⟨q, PySem.W.cellsFrom_some _ _ _ (.inl q)⟩
  refine codeAny_call_function hr (KX _ _ lk) rfl S.co S.gen rfl (PySem.W.codeRec_of KX hcd) (hbind _ _ _ _ ?_)
  refine wpAny_newFunctionEnv_cells S.kind hkind fun env he s1 xx => ?_
  subst he
  refine ⟨lim.keeps xx.toInCall.keep, codeAny_func ?_⟩
  have I := inv_startH (CX := L2N.CX P w) (E := E) S hpin e0 hl r xx
  refine wpAny_mono ((hbody cdv A outer s H E hot).run [] s1 (L2.start N vs) H _ I (spD_in hsp)) (fun fl s' hs => ?_) fun e s' hs => hs
  cases fl with
  | ret u =>
    obtain ⟨v, σ', H', J, rv, q⟩ := hs
    exact ⟨v, H', J.os, J.bare, J.base, J.hok, rv, q⟩
  | next =>
    obtain ⟨σ', H', J, q⟩ := hs
    exact ⟨V.non, H', J.os, J.bare, J.base, J.hok, rfl, q⟩
  | brk =>
    obtain ⟨_, _, _, q⟩ := hs
    exact False.elim q
  | cont =>
    obtain ⟨_, _, _, q⟩ := hs
    exact False.elim q
end DH
/-! DH4: several clauses 'except x as n', of which one always catches; a lambda handed to a def, exceptions without context. -/
namespace DH
open PySem PySem.Spec PyProof.Rows L2 L2H DL HotX

/-! ### try -/
def endsAs (i : Nat) (D : Ends) : Ends := { nx := fun σ' H' => D.nx (σ'.set i none) H', rt := D.rt, bk := fun σ' H' => D.bk (σ'.set i none) H', ct := fun σ' H' => D.ct (σ'.set i none) H' }
abbrev Suites := List (Value × (Addr → Value → Option Addr → TS))
def wClauses (K : PySem.W.Frag) (i : Nat) (D : Ends) : Suites → WX
  | [] => fun _ _ _ _ => False
  | (c, ts) :: r => fun cls d σ H => ∃ b, PySem.W.exmOne K cls c = some b ∧ (b = true → ∀ a, H a = none → ts a cls d (endsAs i D) (σ.set i (some (.ref a))) H) ∧ (b = false → wClauses K i D r cls d σ H)
inductive Clauses (X : Cx) (n : Str) : List ExceptHandler → Suites → Prop
  | nil : Clauses X n [] []
  | cons {x : Str} {c : Value} {ts : Addr → Value → Option Addr → TS} {b₀ : Stmt} {suite : List Stmt} {np pos' : Pos} {hds : List ExceptHandler} {l : Suites} (hc : Names X x c)
      (hsu : ∀ (a : Addr) (oe : Obj) (cls : Value) (d : Option Addr) (pn : List (Addr × Obj)), L2N.Zn cls d oe → (∃ vs, oe.data = .fields vs) → PSs (X.suite a ((a, oe) :: pn)) (b₀ :: suite) (ts a cls d)) (r : Clauses X n hds l) :
      Clauses X n (.ExceptHandler (some (.Name x np)) (some n) (b₀ :: suite) pos' :: hds) ((c, ts) :: l)
section
variable {X : Cx} {n : Str} {i : Nat}
/-- an exception that stands on the ground finds its clause -/
theorem clause_found {pins : List (Addr × Obj)} {sI s3 : Shared} {σ : L2.St} {H : Hp} {D : Ends} {B : Heap} {a : Addr} {cls : Value} {d : Option Addr} (hs : X.stack = X.env :: X.outer) (hf : X.env.frame = some X.env.locals) (hN : X.N.Nodup) (hi : X.N[i]? = some n) (hln : X.env.kindOf n = some .local)
    (J : Inv X pins σ H sI) (nb : ∀ b o, sI.heap.get? b = some o → b ∉ frs X.stack → B.get? b = some o) (up : sI.heap.UpToSlots s3.heap) (os : s3.os = sI.os) (ag : AllBare s3.gens) (na : H a = none) (fl : HandSPX.FlyingZ B (X.env :: X.outer) a (L2N.Zn cls d) s3.heap) :
    ∀ {hds : List ExceptHandler} {l : Suites}, Clauses X n hds l → wClauses X.K i D l cls d σ H → wpAny (model X.prog X.w) X.A (handleBy (.ref a) X.env hds) (SP X pins D) X.xe s3 := by
  have ok := J.ok
  have hloc : Loc X.env.scope n := .inl hln
  have hfr : X.A.frames = some (X.env :: X.outer) := by rw [ok.frames, hs]
  -- the object is none of ours
  have apart : ∀ {h : Heap} {o : Obj} {vs : Array Value}, h.FunFrames B (X.env :: X.outer) → h.get? a = some o → o.data = .fields vs → a ≠ X.env.locals ∧ a ∉ X.fs := fun {h o vs} ff e dd => by
    have no : a ∉ frs (X.env :: X.outer) := fun hm => by
      obtain ⟨_, o', e', hnf⟩ := ff.mem hm
      rw [e] at e'; cases e'
      exact hnf _ dd
    refine ⟨fun z => no (List.mem_filterMap.mpr ⟨X.env, List.mem_cons_self, by rw [hf, z]⟩), fun hm => ?_⟩
    obtain ⟨e, he, q⟩ := List.mem_filterMap.mp hm
    exact no (List.mem_filterMap.mpr ⟨e, List.mem_cons_of_mem _ he, q⟩)
  obtain ⟨oe3, vs3, he3, hz3, hd3⟩ := fl.there
  have ap3 := apart fl.2.2.1 he3 hd3
  have J3 : Inv X pins σ H s3 := J.landed nb fl.1 up os ag
  have S3 := J3.suite he3 hd3 na ap3.1 ap3.2
  intro hds l hk
  induction hk with
  | nil => exact fun w => w.elim
  | @cons x c ts b₀ suite np pos' hds2 l2 hc hsu r ih =>
    rintro ⟨b, hb1, hyes, hno⟩
    refine wpAny_handleBy_cons (codeAny_handlers_test ?_) (by intro q; cases q)
    have LT : PySem.W.Looks (model X.prog X.w) s3.heap (typeOf (.ref a)) cls := fun A Q E s k q => wpAny_typeOf_ref (k _ _ he3) (by rw [hz3.1]; exact q)
    have LM := PySem.W.exm_one (M := model X.prog X.w) (J3.kIn) LT hb1
    have test : ∀ {Q : Value → Shared → Prop} {E : Value → Shared → Prop}, Q c s3 → wpAny (model X.prog X.w) (X.A.mark (some (.ref a))) (eval (.Name x np) X.env) Q E s3 := fun {Q E} q => by
      obtain ⟨hg, hdbg, hm | ⟨hm, hv, hnn⟩⟩ := hc
      · exact ld_glob (X := X.suite a ((a, oe3) :: (X.pn ++ pins))) S3 hg hm q hdbg
      · exact ld_blt (X := X.suite a ((a, oe3) :: (X.pn ++ pins))) S3 hg hm hv q hnn hdbg
    refine test (LM.here ?_)
    cases b with
    | false => exact ih (hno rfl)
    | true =>
      refine codeAny_handlers_suite_as ?_
      refine HandSPX.lands_againZ fl fun h4 fl4 up4 => ?_
      have J4 : Inv X pins σ H { s3 with heap := h4 } := J.landed nb fl4.1 (up.trans up4) os ag
      obtain ⟨oe4, vs4, he4, hz4, hd4⟩ := fl4.there
      have S4 := J4.suite he4 hd4 na ap3.1 ap3.2
      refine store_ok (X := X.suite a ((a, oe4) :: (X.pn ++ pins))) (v := .ref a) S4 hN hi hloc rfl (fun s5 S5 => ?_) (.inr hln)
      refine wpAny_mono ((hsu a oe4 cls d (X.pn ++ pins) hz4 ⟨_, hd4⟩).run [] s5 _ H _ S5 (hyes rfl a na)) (fun f s6 hsp => ?_) (fun _ _ z => False.elim z)
      have leave : ∀ {σ6 : L2.St} {H6 : Hp} {Q : Shared → Prop}, Inv (X.suite a ((a, oe4) :: (X.pn ++ pins))) [] σ6 H6 s6 → (∀ s7, Inv X pins (σ6.set i none) H6 s7 → Q s7) →
          wpAny (model X.prog X.w) X.A (do bindName X.env n .none; unbindBehindTheSuite X.env n pos') (fun _ s7 => Q s7) X.xe s6 := fun {σ6 H6 Q} S6 hq => gone_ok (S6.unsuite ok) hN hi hln hq
      cases f with
      | next =>
        obtain ⟨σ6, H6, S6, q6⟩ := hsp
        exact leave S6 fun s7 J7 => ⟨_, _, J7, q6⟩
      | brk =>
        obtain ⟨σ6, H6, S6, q6⟩ := hsp
        exact leave S6 fun s7 J7 => ⟨_, _, J7, q6⟩
      | cont =>
        obtain ⟨σ6, H6, S6, q6⟩ := hsp
        exact leave S6 fun s7 J7 => ⟨_, _, J7, q6⟩
      | ret u =>
        obtain ⟨v6, σ6, H6, S6, r6, q6⟩ := hsp
        exact leave S6 fun s7 J7 => ⟨_, _, _, J7, r6, q6⟩
theorem ps_try_clauses {body : List Stmt} {hds : List ExceptHandler} {h₀ : ExceptHandler} {l : Suites} {pos : Pos} {tb : WX → TS} (hs : X.stack = X.env :: X.outer) (hf : X.env.frame = some X.env.locals) (hN : X.N.Nodup) (hi : X.N[i]? = some n) (hln : X.env.kindOf n = some .local)
    (hb : ∀ (W : WX) (pn : List (Addr × Obj)) (xe : Value → Shared → Prop), L2N.Takes (X.tr pn xe) W → PassesOwn (model X.prog X.w) X.A X.env xe → PSs (X.tr pn xe) body (tb W)) (hh : Clauses X n (h₀ :: hds) l) :
    PS X (.Try body (h₀ :: hds) [] [] pos) (fun D σ H => tb (wClauses X.K i D l) D σ H) := by
  refine ⟨fun pins s σ H D I h => ?_⟩
  have ok := I.ok
  refine wpAny_Try_except ?_
  refine wpAny_mono ((hb (wClauses X.K i D l) (X.pn ++ pins) (fun e s₁ => wpAny (model X.prog X.w) X.A (noteFrame e X.env) (fun _ s₂ => wpAny (model X.prog X.w) X.A (setFlight e none) (fun _ s₃ =>
    wpAny (model X.prog X.w) X.A (handleBy e X.env (h₀ :: hds)) (SP X pins D) X.xe s₃) X.xe s₂) X.xe s₁) (fun u s' xx => ?_) PassesOwn.looking).run [] s σ H D (I.toTry _) h) (fun f s1 hsp => ?_) (fun e s1 he => he)
  · obtain ⟨a, B, sI, pins', σ', H', cls, d, rfl, J', nb, up, sky, na, os, ag, w⟩ := xx
    show wpAny (model X.prog X.w) X.A (noteFrame (.ref a) X.env) _ _ _
    refine L2N.Sky.land L2N.Zn.steady (by rw [ok.frames, hs]) hf (by rw [← hs]; exact sky) fun h3 fl3 up3 => ?_
    exact clause_found (s3 := { s' with heap := h3 }) hs hf hN hi hln (J'.ofTry ok) nb (up.trans up3) os ag na fl3 hh w
  · cases f with
    | next =>
      obtain ⟨σ', H', J', q⟩ := hsp
      exact wpAny_execs_nil ⟨σ', H', J'.ofTry ok, q⟩
    | brk =>
      obtain ⟨σ', H', J', q⟩ := hsp
      exact ⟨σ', H', J'.ofTry ok, q⟩
    | cont =>
      obtain ⟨σ', H', J', q⟩ := hsp
      exact ⟨σ', H', J'.ofTry ok, q⟩
    | ret u =>
      obtain ⟨v, σ', H', J', r, q⟩ := hsp
      exact ⟨v, σ', H', J'.ofTry ok, r, q⟩
end
end DH
/-! DH5: a lambda without parameters handed to a def that calls it; its exceptions have no context. -/
namespace DH
open PySem PySem.Spec PyProof.Rows L2 L2H DL HotX LamX

/-- the context of the lambda's body -/
abbrev lamN (X : Cx) (A : Around) (outer : List Env) (s : Shared) (H : Hp) (E : XK) (scope : Scope) (f c' : Addr) : Cx :=
  (lamCx X A outer s H E scope f c').tr [] fun e s' => wpAny (model X.prog X.w) (A.deeper (lamEnv X scope s.heap.objs.size f c')) (leaving (lamEnv X scope s.heap.objs.size f c') e) (fun _ s'' => L2N.CX X.prog X.w outer H s E e s'') (fun e' s'' => L2N.CX X.prog X.w outer H s E e' s'') s'
theorem takes_lamN {X : Cx} {A : Around} {outer : List Env} {s : Shared} {H : Hp} {E : XK} {scope : Scope} {f c' : Addr} : L2N.Takes (lamN X A outer s H E scope f c') (fun cls d _ H => E cls d H) := L2N.takes_of rfl rfl rfl rfl
/-- the context of the def's body that got the lambda -/
abbrev gotCx (X : Cx) (Ng : List Str) (sg : Scope) (g : Addr) (cdg : Value) (s : Shared) (H : Hp) : Cx := cxOf C8.CX0 X.prog X.w X.K X.mg X.base Ng "_law_call" sg g cdg X.A X.stack s H C8.E0
/-- the lambda called there: the reading tl -/
abbrev tAct (f c' : Addr) (q : Str) (tl : Hp → VK → Prop) : TE := fun σZ HZ Q => σZ[0]? = some (some (.ref f)) ∧ HZ c' = some (CodeO c' q) ∧ tl HZ Q
def GivesN (X : Cx) (Ng : List Str) (sg : Scope) (g : Addr) (cdg : Value) (bg : List Stmt) (q : Str) (TT : (XK → Hp → VK → Prop) → Hp → VK → Prop) : Prop :=
  ∀ (f c' : Addr) (s : Shared) (H : Hp) (Q : VK) (tl : XK → Hp → VK → Prop),
    (∀ (W : WX) (pn : List (Addr × Obj)) (xe : Value → Shared → Prop) (E : XK) (p1 p2 : Pos), L2N.Takes ((gotCx X Ng sg g cdg s H).tr pn xe) W → (∀ cls d σ' H', σ'.length = Ng.length → E cls d H' → W cls d σ' H') → PE ((gotCx X Ng sg g cdg s H).tr pn xe) (.Call (.Name "call_so" p1) [] [] p2) (tAct f c' q (tl E))) →
    H c' = some (CodeO c' q) → TT tl H Q → ∃ t, PSs (gotCx X Ng sg g cdg s H).nox bg t ∧ t { nx := fun _ H' => Q .non H', rt := Q } (L2.start Ng [.ref f]) H
section
variable {X : Cx} {pins : List (Addr × Obj)} {σ : L2.St} {H : Hp} {s : Shared}
theorem takes_len {X : Cx} {W : WX} (tk : L2N.Takes X W) : L2N.Takes X (fun cls d σ H => σ.length = X.N.length → W cls d σ H) := fun u s' ⟨a, B, sI, pins, σ, H, cls, d, e, I, nb, up, sky, na, os, ag, w⟩ => tk u s' ⟨a, B, sI, pins, σ, H, cls, d, e, I, nb, up, sky, na, os, ag, w I.len⟩
theorem pe_actN {Ng : List Str} {sg : Scope} {g f c' : Addr} {cdg pm ctv : Value} {params : Arguments} {body : Expr} {scope : Scope} {k : Nat} {pn : List (Addr × Obj)} {xe : Value → Shared → Prop} {W : WX} {E : XK} {tb : TE} {p1 p2 : Pos}
    (I : Inv X pins σ H s) (L : LamS X.env.scope scope) (hf : s.heap.get? f = some (PySem.W.kla_obj "<lambda>" (X.env.qual ++ "<lambda>") params body scope (cloFrom X.env.cells scope.names []) pm c' ctv)) (hfn : H f = none) (hfr : f ∉ frs X.stack)
    (hbind : bindArgs (PySem.W.kla_fn "<lambda>" (X.env.qual ++ "<lambda>") params body scope (cloFrom X.env.cells scope.names []) pm (.ref c') ctv) ⟨[], []⟩ = pure [])
    (tk : L2N.Takes ((gotCx X Ng sg g cdg s H).tr pn xe) W) (hW : ∀ cls d σ' H', σ'.length = Ng.length → E cls d H' → W cls d σ' H') (hr : Room (k + 1) (X.A.deeper (envOfC "_law_call" sg s.heap.objs.size g cdg)))
    (hbody : ∀ (A : Around) (outer : List Env) (s : Shared) (H : Hp), Room k (A.deeper (lamEnv X scope s.heap.objs.size f c')) → PE (lamN X A outer s H E scope f c') body tb)
    (hN : Ng[0]? = some ("call_so" : Str)) (hv : Vis sg "call_so") : PE ((gotCx X Ng sg g cdg s H).tr pn xe) (.Call (.Name "call_so" p1) [] [] p2) (tAct f c' (X.env.qual ++ "<lambda>") (tb σ)) := by
  refine ⟨fun pinsZ sZ σZ HZ Q IZ h => ?_⟩
  obtain ⟨hs, hc, ht⟩ := h
  refine wpAny_Call_Name_kw (thn ((pe_var (pos := p1) (i := 0) hN hv (by decide) (by decide)).run pinsZ sZ σZ HZ (fun v H1 => v = .ref f ∧ H1 = HZ) IZ ⟨.ref f, hs, rfl, rfl⟩) fun u s1 ⟨v, H1, I1, r1, q1⟩ => ?_)
  obtain ⟨ev, eH⟩ := q1
  subst ev
  rw [eH] at I1
  obtain rfl : u = Value.ref f := r1
  have of1 := I1.base.keep f _ hf hfn hfr (fun z => nomatch (show f ∈ ([] : List Addr) from z))
  refine PySem.W.callWith_F0 ⟨_, _, _, _, of1⟩ ?_
  have un : Un (frs X.stack) [] H HZ s.heap s1.heap := I1.base
  obtain ⟨⟨oc, vs, t, hoc, hdc, hvc⟩, _, _⟩ := I1.hok c' _ hc
  have rc : codeAny (model X.prog X.w) (X.A.deeper (envOfC "_law_call" sg s.heap.objs.size g cdg)) (.call (.ref f) ⟨[], []⟩) (CR (L2N.CX X.prog X.w) (envOfC "_law_call" sg s.heap.objs.size g cdg :: X.stack) X.prog X.w HZ s1 Q E) s1 := by
    refine PySem.W.kla_callFunE hr.depth of1 rfl L.co L.gen rfl ⟨c', oc, vs, t, rfl, hoc, hdc, hvc⟩ ?_
    rw [hbind]
    refine wpAny_pure (wpAny_newFunctionEnv (fun y hy => (L.own y hy).2) (fun y hy => absurd hy (by simp)) (fun h₁ hns hsb => ⟨I1.nolimit.fresh _ hsb, ?_⟩) L.kind)
    show codeAny _ _ (.expr body (lamEnv X scope s1.heap.objs.size f c')) _ _
    have kp : ∀ b o, s1.heap.get? b = some o → h₁.get? b = some o := fun b o e => hsb.extBut b o (Nat.ne_of_lt (Heap.lt_size e)) (Heap.get?_push_of_some _ e)
    have J := (lam_start2 (tk := s1.toks + ([] : List (Str × Value)).length) (A := X.A.deeper (envOfC "_law_call" sg s.heap.objs.size g cdg)) (outer := envOfC "_law_call" sg s.heap.objs.size g cdg :: X.stack) (E := E) (f := f) (c' := c') I L I1.env0 hr.hd un hns kp).toTry (fun e s' => wpAny (model X.prog X.w) ((X.A.deeper (envOfC "_law_call" sg s.heap.objs.size g cdg)).deeper (lamEnv X scope s1.heap.objs.size f c')) (leaving (lamEnv X scope s1.heap.objs.size f c') e) (fun _ s'' => L2N.CX X.prog X.w (envOfC "_law_call" sg s.heap.objs.size g cdg :: X.stack) HZ s1 E e s'') (fun e' s'' => L2N.CX X.prog X.w (envOfC "_law_call" sg s.heap.objs.size g cdg :: X.stack) HZ s1 E e' s'') s')
    refine PySem.W.kla_codeExpr (wpAny_mono ((hbody (X.A.deeper (envOfC "_law_call" sg s.heap.objs.size g cdg)) (envOfC "_law_call" sg s.heap.objs.size g cdg :: X.stack) s1 HZ (hr.deeper _)).run [] _ _ HZ Q J ht) (fun v s' hq => ?_) fun e s' hq => hq)
    obtain ⟨w', H', J', rv, q⟩ := hq
    exact ⟨w', H', J'.os, J'.bare, J'.base, J'.hok, rv, q⟩
  have hx := L2N.passes_call (E := E) (takes_len tk) (fun cls d σ' H' e l => hW cls d σ' H' l e)
  refine wpAny_call (codeAny_mono rc fun r s' hq => ?_)
  cases r with
  | error e => exact hx pinsZ σZ HZ s1 e s' I1 hq
  | ok fl =>
    cases fl with
    | ret u => exact I1.after hq
    | next => exact False.elim hq
    | brk => exact False.elim hq
    | cont => exact False.elim hq
/-- _law_call(lambda: body) -/
theorem pe_lamcallN {T : List (Addr × Str)} {TT : (XK → Hp → VK → Prop) → Hp → VK → Prop} {g c P : Addr} {k : Nat} {stg : Stmt} {fd : FuncData} {Ng : List Str} {params : Arguments} {body : Expr} {scope : Scope} {t : XK → TE} {p lpos pos : Pos}
    (F : Fun X.K "_law_call" "_law_call" stg g fd) (hm : X.mg "_law_call" = some (.ref g)) (hb : L2.Binds X.K fd ["call_so"] []) (Sg : FnScope Ng ["call_so"] (defScope stg)) (hNg : Ng[0]? = some ("call_so" : Str)) (hva : Vis (defScope stg) "call_so")
    (hG : ∀ cdg, GivesN X Ng (defScope stg) g cdg (defBody stg) (X.env.qual ++ "<lambda>") TT) (hg : Gl X "_law_call")
    (TB : TabB X.base X.mg c P) (hcode : X.env.code = .ref c) (hmT : (P, X.env.qual ++ "<lambda>") ∈ T) (hu : ∀ p ∈ T, p.1 = P → p.2 = X.env.qual ++ "<lambda>") (hr : Room (k + 2) X.A) (L : LamS X.env.scope scope) (hdef : defaultsOf params X.env = ([], []))
    (hbind : ∀ (q : Str) (cl : List (Str × Addr)) (pm cv ctv : Value), bindArgs (PySem.W.kla_fn "<lambda>" q params body scope cl pm cv ctv) ⟨[], []⟩ = pure [])
    (hbody : ∀ (A : Around) (outer : List Env) (s : Shared) (H : Hp) (E : XK) (f c' : Addr), Room k (A.deeper (lamEnv X scope s.heap.objs.size f c')) → PE (lamN X A outer s H E scope f c') body (t E)) :
    PE X (.Call (.Name "_law_call" p) [.Lambda params body scope lpos] [] pos) (tLam T TT t) := by
  refine ⟨fun pins s σ H Q I h => ?_⟩
  obtain ⟨hT, h⟩ := h
  have kp := F.kp
  obtain ⟨_, _, _, _, _, _, cdv, _, _, rfl, lk, hcg⟩ := F.ex
  refine wpAny_Call_Name_kw (ld_glob I hg hm ?_ (by decide))
  refine PySem.W.callWith_K (h₀ := X.base) I.ok.mod.kin kp ?_ (by rfl) (by rfl)
  show wpAny _ _ (spliced ((false, eval (.Lambda params body scope lpos) X.env) :: backTo pos (starEach [] X.env))) _ _ s
  refine Calls.spliced_cons (lam_make2 I TB hcode hmT hu hT hdef (L.has I.ok) fun f c' pm' ctv H1 s' I1 eN T1 hf hfn hfr hco => ?_)
  refine Calls.spliced_nil ⟨I1.kIn, ?_⟩
  have rc : codeAny (model X.prog X.w) X.A (.call (.ref g) ⟨[.ref f], []⟩) (CR C8.CX0 X.stack X.prog X.w H1 s' Q C8.E0) s' := by
    refine run_ofS (N := Ng) (ps := ["call_so"]) (us := [.ref f]) (vs := [.ref f]) lk hcg Sg hr I1.env0 (hb s' [.ref f] I1.kIn rfl) (.cons rfl .nil) rfl fun hr' => ?_
    obtain ⟨t', ht', hq'⟩ := hG cdv f c' s' H1 Q (fun E H' Q' => t E σ H' Q') (fun W pn xe E p1 p2 tk hW => pe_actN I1 L hf hfn hfr (hbind _ _ _ _ _) tk hW hr' (fun A outer s H hr2 => hbody A outer s H E f c' hr2) hNg hva) hco (h H1 eN T1)
    exact ⟨t', ht'.nox, hq'⟩
  refine wpAny_call (codeAny_mono rc fun r s2 hq => ?_)
  cases r with
  | error e => exact (show False from hq).elim
  | ok fl =>
    cases fl with
    | ret u => exact I1.after hq
    | next => exact False.elim hq
    | brk => exact False.elim hq
    | cont => exact False.elim hq
end
end DH
/-! DH6: _law_kinds, _law_call, a call of it with a lambda. -/
namespace DH
open PySem PySem.Spec PyProof.Rows L2 L2H DL HotX LamX

/-! ### the names of an error -/
def toldOf (x : Str) : Str := x ++ (" +" : Str)
def KindsOk (P : Program) (w : World) (Z : Zx) (base : Heap) (ks : List Str) : Prop :=
  ∃ fk fd, Z.mg "_law_kinds" = some (.ref fk) ∧ PySem.W.keepIn Z.K (.ref fk) = true ∧ L2.Binds Z.K fd ["e"] [] ∧
    ∀ x ∈ ks, ∀ (C a : Addr) (oe : Obj) (A : Around) (outer : List Env) (s : Shared) (H : Hp) (Q : VK) (E : XK), KF Z x C → L2N.Zn (.ref C) none oe → (∃ vs, oe.data = .fields vs) → A.depth < recursionLimit → Hot1 A (a, oe) → PinOk outer H s (a, oe) →
      Env0 P w Z.K Z.mg base A outer s H → Tabs Z.T H → (∀ H', ExtN H H' → Tabs Z.T H' → Q (.str (toldOf x)) H') → codeAny (model P w) A (.call (.ref fk) ⟨[.ref a], []⟩) (CR (L2N.CX P w) outer P w H s Q E) s
def retS (o : SO) (k : Str) : Bool := match o with
  | .rt (.d (.str y)) _ => y == k
  | _ => false
theorem kindsOk {P : Program} {w : World} {Z : Zx} {base : Heap} {st : Stmt} {N : List Str} {ks : List Str} (F : FunAt Z "_law_kinds" st ["e"]) (S : FnScope N ["e"] (defScope st)) (g : Str → SM)
    (hbody : ∀ (x : Str) (C a : Addr) (oe : Obj), KF Z x C → L2N.Zn (.ref C) none oe → (∃ vs, oe.data = .fields vs) → ∀ (f : Addr) (cdv : Value) (A : Around) (outer : List Env) (s : Shared) (H : Hp) (E : XK), Hot1 A (a, oe) →
      SB (cxH (L2N.CX P w) P w Z.K Z.mg base N "_law_kinds" (defScope st) f cdv A outer s H E (a, oe)) { Z with ea := a } [] (fun cls d _ H => E cls d H) (defBody st) (g x))
    (hk : ∀ x ∈ ks, retS (g x (some (.d .exc) :: List.replicate (N.length - 1) none)) (toldOf x) = true) : KindsOk P w Z base ks := by
  obtain ⟨f, fd, h1, h2, h3⟩ := F
  refine ⟨f, fd, h2, h1.kp, h3, fun x hx C a oe A outer s H Q E hF hz hd hr hot hpin e0 tb q => ?_⟩
  refine run_hotD (Z := { Z with ea := a }) (ioI := []) (k := 0) h1 S h3 (fun cdv A outer s H E hot => hbody x C a oe hF hz hd f cdv A outer s H E hot) hr hot hpin e0 (.cons rfl .nil) (vs := [.ref a]) ?_
  have nS : ∀ b, ¬ (base0 (fun _ => none) H [.ref a] [SV.d .exc] []).S b := fun b ⟨i, p, c, _, e, _⟩ => by
    cases i with
    | zero => simp at e
    | succ i => simp at e
  have only : ∀ {i : Nat} {y : SV}, (([SV.d D.exc] : List SV).map some)[i]? = some (some y) → i = 0 ∧ y = .d .exc := fun {i y} e => by
    cases i with
    | zero => simp at e; exact ⟨rfl, e.symm⟩
    | succ i => simp at e
  have R0 : Rep { Z with ea := a } (base0 (fun _ => none) H [.ref a] [SV.d .exc] []) (fun _ => none) H (([.ref a] : List V).map some) (([SV.d .exc] : List SV).map some) := by
    refine { sub := fun b o e => ?_, fr := fun b o e _ _ => e, new := fun b e => absurd rfl e, ext := fun b o e => e, ntb := fun b ps e => ?_, len := rfl, frz := fun i y e => ?_, own := fun i c e => ?_, apart := fun i j p q c d b e _ _ _ _ _ => ?_, io := fun y hy => ?_, tab := tb }
    · cases (show (none : Option HO) = some o from e)
    · cases (show (none : Option HO) = some _ from e)
    · obtain ⟨rfl, h⟩ := only e
      cases h
      exact ⟨.ref a, rfl, Den.exc (Z := { Z with ea := a })⟩
    · cases (only e).2
    · cases (only e).2
    · cases (show y ∈ ([] : List (Nat × Addr)) from hy)
  refine ⟨fun _ => none, [.d .exc], rfl, R0, ?_⟩
  · have hk' := hk x hx
    have em : (([.d .exc] : List SV).map some ++ List.replicate (N.length - 1) none) = some (.d .exc) :: List.replicate (N.length - 1) none := rfl
    show FK _ _ _ _ _ (mDef N.length 1 (g x) [.d .exc])
    unfold mDef
    rw [if_pos (by rfl), em]
    cases ho : g x (some (.d .exc) :: List.replicate (N.length - 1) none) with
    | rt r ρ =>
      rw [ho] at hk'
      cases r with
      | o c => cases hk'
      | d y =>
        cases y with
        | str y =>
          have ey : y = toldOf x := eq_of_beq hk'
          subst ey
          intro v G' H' R' d'
          have d' : Den _ G' v (.str (toldOf x)) := d'
          cases d'
          exact q H' (fun b o e n => R'.fr b o e (nS b) n) R'.tab
        | _ => cases hk'
    | _ => rw [ho] at hk'; cases hk'

/-- _law_kinds(e) in the suite -/
theorem pe_kinds {X : Cx} {Z : Zx} {ks : List Str} {a C : Addr} {oe : Obj} {x : Str} {pn : List (Addr × Obj)} {ie : Nat} {p p2 pos : Pos} (Kd : KindsOk X.prog X.w Z X.base ks) (hZ : Z.K = X.K ∧ Z.mg = X.mg) (hx : x ∈ ks) (hF : KF Z x C) (hz : L2N.Zn (.ref C) none oe) (hd : ∃ vs, oe.data = .fields vs) (hr : X.A.depth < recursionLimit)
    (hN : X.N[ie]? = some ("e" : Str)) (hv : Vis X.env.scope "e") (hg : Gl X "_law_kinds") :
    PE (X.suite a ((a, oe) :: pn)) (.Call (.Name "_law_kinds" p) [.Name "e" p2] [] pos) (fun σ H Q => σ[ie]? = some (some (.ref a)) ∧ Tabs Z.T H ∧ ∀ H', ExtN H H' → Tabs Z.T H' → Q (.str (toldOf x)) H') := by
  refine ⟨fun pins s σ H Q I h => ?_⟩
  obtain ⟨h1, h2, h3⟩ := h
  obtain ⟨fk, fd, k1, k2, k3, k4⟩ := Kd
  refine wpAny_Call_Name_kw (ld_glob I hg (by show X.mg _ = _; rw [← hZ.2]; exact k1) ?_ (by decide))
  refine PySem.W.callWith_K (h₀ := X.base) I.ok.mod.kin (by show PySem.W.keepIn X.K _ = true; rw [← hZ.1]; exact k2) (thn ((pa_cons (X := X.suite a ((a, oe) :: pn)) (pe_var (pos := p2) hN hv (by decide) (by decide)) pa_nil (by rfl)).run pos pins s σ H (fun vs H1 => vs = [.ref a] ∧ H1 = H) I ⟨_, h1, rfl, rfl⟩) fun us s1 ⟨vs, H1, I1, r, ev, eH⟩ => ⟨I1.kIn, ?_⟩) (by rfl) (by rfl)
  subst ev eH
  cases r with
  | cons r rr =>
    cases rr
    cases r
    have P1 := I1.pin (a, oe) (List.mem_append_left _ List.mem_cons_self)
    have hpin : PinOk X.stack H1 s1 (a, oe) := ⟨P1.1, P1.2.1, fun hm => (List.mem_cons.mp (I1.stkSub a hm)).elim P1.2.2.1 P1.2.2.2.1, P1.2.2.2.2⟩
    obtain ⟨vs, hv'⟩ := id hd
    have hot : Hot1 (X.suite a ((a, oe) :: pn)).A (a, oe) := ⟨rfl, vs, hv', hz.2.2 vs hv'⟩
    have e0 : Env0 X.prog X.w Z.K Z.mg X.base (X.suite a ((a, oe) :: pn)).A X.stack s1 H1 := by rw [hZ.1, hZ.2]; exact I1.env0
    refine wpAny_call (codeAny_mono (k4 x hx C a oe _ _ s1 H1 Q (fun _ _ _ => False) hF hz hd hr hot hpin e0 h2 h3) fun r s' hq => ?_)
    cases r with
    | error e =>
      obtain ⟨_, _, _, _, _, _, _, _, _, _, _, _, z⟩ := hq
      exact z.elim
    | ok fl =>
      cases fl with
      | ret u => exact I1.after hq
      | next => exact False.elim hq
      | brk => exact False.elim hq
      | cont => exact False.elim hq
end DH
/-! DH7: _law_call with a lambda, as a value of data. -/
namespace DH
open PySem PySem.Spec PyProof.Rows L2 L2H DL HotX LamX
def EchL (Z : Zx) (ks : List Str) (Q : VK) : XK := fun cls d H' => ∃ x C, x ∈ ks ∧ KF Z x C ∧ cls = .ref C ∧ d = none ∧ Tabs Z.T H' ∧ ∀ H'' p, ExtN H' H'' → Tabs Z.T H'' → H'' p = none → Q (.ref p) (upd H'' p (.tup [.str (toldOf x)]))
def TLaw (Z : Zx) (ks : List Str) : (XK → Hp → VK → Prop) → Hp → VK → Prop := fun tl H Q => ∀ Q' : VK, (∀ v H', (∀ p, H' p = none → Q (.ref p) (upd H' p (.tup [.str "told", v]))) → Q' v H') → tl (EchL Z ks Q) H Q'
def nmC : List Str := ["call_so", "found", "e"]
theorem gName_set {i : Nat} {x : V} {σ : L2.St} {H : Hp} {Q : L2.St → Hp → Prop} (h : Q (σ.set i (some x)) H) : gName i x σ H Q := h
section
variable {X : Cx} {Z : Zx} {ks : List Str} {sg : Scope} {g : Addr} {cdg : Value}
theorem law_gives {q : Str} {j0 j1 k1 k2 : Nat} {b1 : Stmt} {q1 q2 q3 q4 q5 q6 q7 q8 q9 q10 q11 q12 q13 q14 q15 q16 q17 q18 q19 q20 q21 q22 : Pos} (Kd : KindsOk X.prog X.w Z X.base ks) (hZ : Z.K = X.K ∧ Z.mg = X.mg) (hr : X.A.depth + 1 < recursionLimit)
    (hTM : ∃ T, Z.mg "TooMany" = some (.ref T)) (hLE : ∃ T, Z.mg "LookError" = some (.ref T)) (lf : sg.names.lookup ("found" : Str) = some .local) (le : sg.names.lookup ("e" : Str) = some .local)
    (gT : sg.names.lookup ("TooMany" : Str) = some .globalImplicit) (gL : sg.names.lookup ("LookError" : Str) = some .globalImplicit) (gk : sg.names.lookup ("_law_kinds" : Str) = some .globalImplicit) :
    GivesN X nmC sg g cdg [.Assign [.Name "found" q1] (.Constant .none j0 q2) q3,
      .Try [.Assign [.Name "found" q4] (.Tuple [.Constant (.str "told") j1 q5, .Call (.Name "call_so" q6) [] [] q7] k1 q8) q9]
        [.ExceptHandler (some (.Name "TooMany" q10)) (some "e") [b1] q11,
          .ExceptHandler (some (.Name "LookError" q12)) (some "e") [.Assign [.Name "found" q13] (.Tuple [.Call (.Name "_law_kinds" q14) [.Name "e" q15] [] q16] k2 q17) q18] q19] [] [] q20,
      .Return (some (.Name "found" q21)) q22] q (TLaw Z ks) := by
  intro f c' s H Q tl act hc h
  obtain ⟨TM, hTM⟩ := hTM
  obtain ⟨LE, hLE⟩ := hLE
  have nd : nmC.Nodup := by decide
  have setf : ∀ {Y : Cx} {e : Expr} {te : TE} {p p' : Pos}, Y.N = nmC → Y.env.scope = sg → PE Y e te → swapsWith e (some (.Name "found" p')) p.line Y.env = pure false → PS Y (.Assign [.Name "found" p'] e p) (tAsg te (gName 1)) := fun {Y e te p p'} hN hS he hs =>
    ps_set (by rw [hN]; exact nd) (by rw [hN]; rfl) (.inl (by rw [hS]; exact lf)) he hs (.inr (by rw [hS]; exact lf))
  let l : Suites := [(.ref TM, fun _ _ _ _ _ _ => False), (.ref LE, fun a cls d D σ H => ∃ x C, x ∈ ks ∧ KF Z x C ∧ cls = .ref C ∧ d = none ∧ tAsg (tTup (tCons (fun σ H Q => σ[2]? = some (some (.ref a)) ∧ Tabs Z.T H ∧ ∀ H', ExtN H H' → Tabs Z.T H' → Q (.str (toldOf x)) H') tNil)) (gName 1) D σ H)]
  refine ⟨_, pss_cons (setf rfl rfl pe_non rfl) (pss_cons (ps_try_clauses (X := (gotCx X nmC sg g cdg s H).nox) (n := "e") (i := 2) (l := l)
      (tb := fun W => tAsg (tTup (tCons (tC (.str "told")) (tCons (fun σZ HZ Q => ∃ E : XK, (∀ cls d σ' H', σ'.length = nmC.length → E cls d H' → W cls d σ' H') ∧ tAct f c' q (tl E) σZ HZ Q) tNil))) (gName 1))
      rfl rfl nd rfl le (fun W pn xe tk _ => ?_) ?_) (pss_one (ps_ret (pe_var (i := 1) rfl (.inl lf))))), ?_⟩
  · refine pss_one (setf rfl rfl (pe_tup (pa_cons pe_str (pa_cons ?_ pa_nil))) rfl)
    exact ⟨fun pins s' σ H' D I ⟨E, hW, h'⟩ => (act W pn xe E q6 q7 tk hW).run pins s' σ H' D I h'⟩
  · refine .cons ⟨gT, by decide, .inl (by show X.mg _ = _; rw [← hZ.2]; exact hTM)⟩ (fun a oe cls d pn _ _ => ⟨fun pins s' σ H' D I h' => h'.elim⟩) (.cons ⟨gL, by decide, .inl (by show X.mg _ = _; rw [← hZ.2]; exact hLE)⟩ (fun a oe cls d pn hz hd => ⟨fun pins s' σ H' D I h' => ?_⟩) .nil)
    obtain ⟨x, C, hx, hF, rfl, rfl, h'⟩ := h'
    refine (pss_one (setf (Y := ((gotCx X nmC sg g cdg s H).nox.suite a ((a, oe) :: pn))) rfl rfl (pe_tup (pa_cons (pe_kinds (X := (gotCx X nmC sg g cdg s H).nox) (p := q14) (p2 := q15) (pos := q16) Kd hZ hx hF hz hd hr rfl (.inl le) gk) pa_nil)) ?_)).run pins s' σ H' D I h'
    rfl
  · -- the reading
    show ∃ E : XK, _
    refine ⟨EchL Z ks Q, fun cls d σ' H' hl hE => ?_, ⟨rfl, hc, ?_⟩⟩
    · obtain ⟨x, C, hx, hF, rfl, rfl, tb, qq⟩ := hE
      obtain ⟨T1, e1, f1⟩ := hF.tm
      obtain ⟨T2, e2, f2⟩ := hF.le
      rw [hTM] at e1; cases e1
      rw [hLE] at e2; cases e2
      refine ⟨false, by show PySem.W.exmOne X.K _ _ = _; rw [← hZ.1]; exact f1, ⟨fun z => absurd z Bool.false_ne_true, fun _ => ⟨true, by show PySem.W.exmOne X.K _ _ = _; rw [← hZ.1]; exact f2, ⟨fun _ a na => ⟨x, C, hx, hF, rfl, rfl, ?_⟩, fun z => absurd z.symm Bool.false_ne_true⟩⟩⟩⟩
      have hl3 : σ'.length = 3 := hl
      refine ⟨by rw [getElem?_set', if_pos rfl, if_pos (by rw [hl3]; decide)], tb, fun H'' eN tb2 => ?_⟩
      refine ⟨by show 1 ≤ sizeLine; decide, fun p np => gName_set ?_⟩
      show ∃ v, _
      refine ⟨.ref p, ?_, qq H'' p eN tb2 np⟩
      rw [getElem?_set', if_neg (by decide), getElem?_set', if_pos rfl, if_pos (by rw [List.length_set, hl3]; decide)]
    · refine h _ fun v H' k => ⟨by show 2 ≤ sizeLine; decide, fun p np => gName_set ?_⟩
      show ∃ v, _
      exact ⟨.ref p, by rfl, k p np⟩
end
end DH
/-! DH8: _law_call(lambda: e) as data. -/
namespace DH
open PySem PySem.Spec PyProof.Rows L2 L2H DL HotX LamX
structure CallOk (P : Program) (w : World) (Z : Zx) (base : Heap) (ks : List Str) : Prop where
  ex : ∃ g fd st, Fun Z.K "_law_call" "_law_call" st g fd ∧ Z.mg "_law_call" = some (.ref g) ∧ L2.Binds Z.K fd ["call_so"] [] ∧ FnScope nmC ["call_so"] (defScope st) ∧ Vis (defScope st) "call_so" ∧
    ∀ X : Cx, X.prog = P → X.w = w → X.K = Z.K → X.mg = Z.mg → X.base = base → X.A.depth + 1 < recursionLimit → ∀ cdg q, GivesN X nmC (defScope st) g cdg (defBody st) q (TLaw Z ks)
  kf : ∀ x ∈ ks, ∃ C, KF Z x C
def mLaw (ks : List Str) (f : M D) : M D := fun ρ => match f ρ with
  | .ok d ρ1 => .ok (.tup [.str "told", d]) ρ1
  | .ex x ρ1 => if x.fld.isNone = true ∧ x.cls ∈ ks then .ok (.tup [.str (toldOf x.cls)]) ρ1 else .bad
  | .bad => .bad
theorem ev_law {X : Cx} {sc : Scope} {Z : Zx} {io : List Nat} {W : WX} {ks : List Str} {c P : Addr} {k : Nat} {params : Arguments} {body : Expr} {scope : Scope} {fE : M D} {p lpos pos : Pos} (C : CallOk X.prog X.w Z X.base ks) (TB : TabB X.base X.mg c P) (hcode : X.env.code = .ref c) {q0 : Str} (hT : Z.T = [(P, q0 ++ "<lambda>")]) (hr : Room (k + 2) X.A)
    (hbody : ∀ (A : Around) (outer : List Env) (s : Shared) (H : Hp) (E : XK) (f c' : Addr), Room k (A.deeper (lamEnv X scope s.heap.objs.size f c')) → EV (lamN X A outer s H E scope f c') Z io (fun cls d _ H => E cls d H) body fE)
    (hZ : Z.K = X.K ∧ Z.mg = X.mg := by exact ⟨rfl, rfl⟩) (hq : X.env.qual = q0 := by rfl) (hsc : X.env.scope = sc := by rfl) (L : lamSB sc scope = true := by decide +kernel) (hdef : defaultsOf params X.env = ([], []) := by rfl) (hg : Gl X "_law_call" := by rfl)
    (hbind : ∀ (q : Str) (cl : List (Str × Addr)) (pm cv ctv : Value), bindArgs (PySem.W.kla_fn "<lambda>" q params body scope cl pm cv ctv) ⟨[], []⟩ = pure [] := by intros; rfl) :
    EV X Z io W (.Call (.Name "_law_call" p) [.Lambda params body scope lpos] [] pos) (mLaw ks fE) := by
  obtain ⟨g, fd, st, h1, h2, h3, h4, h5, h6⟩ := C.ex
  rw [← hq] at hT
  rw [← hsc] at L
  have hd : X.A.depth + 1 < recursionLimit := by have := hr.dp; omega
  refine PE.imp (pe_lamcallN (T := Z.T) (TT := TLaw Z ks) (t := fun E => tG Z io (fun cls d _ H => E cls d H) (PV Z) fE) (by rw [← hZ.1]; exact h1) (by rw [← hZ.2]; exact h2) (by rw [← hZ.1]; exact h3) h4 rfl h5 (fun cdg => h6 X rfl rfl hZ.1.symm hZ.2.symm rfl hd cdg _) hg TB hcode (by rw [hT]; exact List.mem_cons_self)
    (fun q hq _ => by rw [hT] at hq; rw [List.mem_singleton.mp hq]) hr (lamS_by L) hdef hbind hbody) fun σ H Q ⟨B, G, ρ, hio, R, kk⟩ => ?_
  refine ⟨R.tab, fun H1 eN T1 Q' hQ' => ⟨B, G, ρ, hio, R.ext' eN T1, ?_⟩⟩
  unfold Kont mLaw at kk
  unfold Kont
  cases ho : fE ρ with
  | ok d ρ1 =>
    rw [ho] at kk
    intro v G' H' R' s' p'
    refine hQ' v H' fun p np => kk (.ref p) (upd G' p (.tup [.str "told", v])) _ (R'.newF np nt_tup) (s'.trans (same_upd (R'.freeG np))) (Den.tup (.inl (.inl upd_same)) (.cons (.str _) (.cons (Den.mono (same_upd (R'.freeG np)) p') .nil)))
  | ex x ρ1 =>
    rw [ho] at kk
    intro cls d G' H' R' s' hx
    dsimp only at kk
    split at kk
    · rename_i hc
      obtain ⟨C', e1, e2, e3⟩ := hx
      obtain ⟨D', F'⟩ := C.kf _ hc.2
      have eC := F'.name
      rw [e1] at eC
      cases eC
      have ef : x.fld = none := by
        have := hc.1
        rwa [Option.isNone_iff_eq_none] at this
      rw [ef] at e3
      refine ⟨x.cls, C', hc.2, F', e2, e3, R'.tab, fun H'' p e'' t'' np => ?_⟩
      have R'' := R'.ext' e'' t''
      exact kk (.ref p) (upd G' p (.tup [.str (toldOf x.cls)])) _ (R''.newF np nt_tup) (s'.trans (same_upd (R''.freeG np))) (Den.tup (.inl (.inl upd_same)) (.cons (.str _) .nil))
    · exact kk.elim
  | bad =>
    rw [ho] at kk
    exact kk.elim
end DH
/-! DH9: the end of a law. -/
namespace DH
open PySem PySem.Spec PyProof.Rows L2 L2H DL HotX LamX
/-- the heap without tables -/
def noTbl (H : Hp) : Hp := fun a => match H a with
  | some (.tbl _) => none
  | o => o
theorem noTbl_same {H : Hp} : Same (noTbl H) H := fun a o e => by
  unfold noTbl at e
  split at e
  · cases e
  · exact e
theorem noTbl_of {H : Hp} {a : Addr} {o : HO} (e : H a = some o) (n : NT o) : noTbl H a = some o := by
  unfold noTbl
  split
  · rename_i ps h
    rw [e] at h
    exact absurd (Option.some.inj h) (n ps)
  · exact e
theorem sqL_noTbl {K : PySem.W.Frag} {H : Hp} {a : Addr} {xs : List V} (h : SqL K H a xs) : SqL K (noTbl H) a xs := by
  rcases h with (h | ⟨o, h⟩) | h
  · exact .inl (.inl (noTbl_of h nt_lst))
  · exact .inl (.inr ⟨o, noTbl_of h fun _ z => by cases z⟩)
  · exact .inr h
theorem denL_ints {Z : Zx} {G : Hp} : ∀ ns : List Int, DenL Z G (ns.map V.int) (ns.map D.int)
  | [] => .nil
  | n :: ns => .cons (.int n) (denL_ints ns)
/-- the script handed to the law -/
theorem spD_script {Z : Zx} {m : FM} {H : Hp} {a : Addr} {ns : List Int} {E : XK} (tb : Tabs Z.T H) (hs : SqL Z.K H a (ns.map V.int)) (plain : ∃ cs, m [.d (.scr (ns.map D.int))] = .ret (.d (.bl true)) cs) : spD Z [] m [.ref a] H (fun v _ => v = .bl true) E := by
  have only : ∀ {i : Nat} {y : SV}, (([SV.d (D.scr (ns.map D.int))] : List SV).map some)[i]? = some (some y) → i = 0 ∧ y = .d (.scr (ns.map D.int)) := fun {i y} e => by
    cases i with
    | zero => simp at e; exact ⟨rfl, e.symm⟩
    | succ i => simp at e
  have R0 : Rep Z (base0 (noTbl H) H [.ref a] [SV.d (.scr (ns.map D.int))] []) (noTbl H) H (([.ref a] : List V).map some) (([SV.d (.scr (ns.map D.int))] : List SV).map some) := by
    refine { sub := noTbl_same, fr := fun b o e _ _ => e, new := fun b e => .inl e, ext := fun b o e => e, ntb := fun b ps e => ?_, len := rfl, frz := fun i y e => ?_, own := fun i c e => ?_, apart := fun i j p q c d b e _ _ _ _ _ => ?_, io := fun y hy => ?_, tab := tb }
    · unfold noTbl at e
      split at e
      · cases e
      · rename_i h
        exact h ps e
    · obtain ⟨rfl, h⟩ := only e
      cases h
      exact ⟨.ref a, rfl, .scr (sqL_noTbl hs) (denL_ints ns)⟩
    · cases (only e).2
    · cases (only e).2
    · cases (show y ∈ ([] : List (Nat × Addr)) from hy)
  refine ⟨noTbl H, [.d (.scr (ns.map D.int))], rfl, R0, ?_⟩
  obtain ⟨cs, e⟩ := plain
  rw [e]
  intro v G' H' R' d'
  have d' : Den Z G' v (.bl true) := d'
  cases d'
  rfl
theorem lawAt_mk {l : PySem.W.OpenLaw} {w : World} {K : PySem.W.Frag} {mg : Str → Option Value} {fa c P : Addr} {h : Heap} {k n : Nat} {oc e : Value} {od dd : Option Addr} {osl sl : Array (Option Value)} {fd : FuncData} {vs : Array Value} {m : FM} {q : Str} (KX : K.In h) (own : OwnTab K fa h)
    (lk : K.lookup fa = some ⟨oc, od, .func fd, osl⟩) (hc : fd.code = .ref c) (lc : K.lookup c = some ⟨e, dd, .fields vs, sl⟩) (hv : vs[11]? = some (.ref P)) (nP : K.lookup P = none) (ch : PySem.W.codeHdIn K c P = true) (hb : ∀ (s : Shared) (u : Value), BindsTo s fd ⟨[u], []⟩ [("script", u)])
    (plain : ∀ ns : List Int, ns.length ≤ n → (∀ z ∈ ns, Builtin.Int.intBits z ≤ 1048576) → ∃ cs, m [.d (.scr (ns.map D.int))] = .ret (.d (.bl true)) cs)
    (hF : ∀ base : Heap, K.In base → base.Ns mainGlobals mg → TabB base mg c P → FnOk l.prog w K mg base (L2N.CX l.prog w) k fa fd ["script"] (spD ⟨K, mg, [(P, q)], 0⟩ [] m)) : LawAtS l w K (L2N.CX l.prog w) k n "script" mg fa h := by
  have one : ∀ p ∈ [(c, P)], p = (c, P) := fun p hp => List.mem_singleton.mp hp
  refine ⟨fd, [(c, P)], spD ⟨K, mg, [(P, q)], 0⟩ [] m, fun p hp => ?_, fun p hp => ?_, fun p hp => ?_, hb, fun H a ns h1 h2 h3 h4 => spD_script (fun p hp => ?_) h4 (plain ns h1 h2), fun base h1 h2 h3 => hF base h1 h2 (h3 (c, P) (List.mem_singleton_self _))⟩
  · rw [one p hp]
    exact own c P _ fd e dd _ sl lk rfl hc lc hv
  · rw [one p hp]; exact nP
  · rw [one p hp]; exact PySem.W.codeHd_of_K KX ch
  · rw [List.mem_singleton.mp hp]
    exact TabS.nil (h3 (c, P) (List.mem_singleton_self _))
/-! ### what stands behind the top -/
theorem funAt_then {goal : Prop} {K : PySem.W.Frag} {mg : Str → Option Value} {h : Heap} (x : Str) (st : Stmt) (ps : List Str) (KX : K.In h) (G : h.Ns mainGlobals mg) {f : Addr} {oc : Value} {od an : Option Addr} {osl : Array (Option Value)} {kV doc pm cdv ct : Value}
    (a : PySem.W.nsIn K mainGlobals x = some (some (.ref f))) (l : K.lookup f = some ⟨oc, od, .func (PySem.W.fnOf x x (defArgs st) (defBody st) (defScope st) .none kV doc pm an cdv ct), osl⟩) (c : PySem.W.codeIn K cdv x = true) (k : PySem.W.keepIn K (.ref f) = true)
    (b : ∀ (kV doc pm : Value) (an : Option Addr) (cdv ct : Value) (us : List Value), us.length = ps.length → bindArgs (PySem.W.fnOf x x (defArgs st) (defBody st) (defScope st) .none kV doc pm an cdv ct) ⟨us, []⟩ = pure (ps.zip us)) (next : FunAt ⟨K, mg, [], 0⟩ x st ps → goal) : goal :=
  next ⟨f, _, fun_mk l c k, PySem.W.mg_of KX G a, (fun_mk l c k).binds b⟩
theorem nb_then {goal : Prop} {K : PySem.W.Frag} {mg : Str → Option Value} {h : Heap} (KX : K.In h) (G : h.Ns mainGlobals mg) (b : ∀ x ∈ (["len", "max", "min", "abs", "int", "str", "tuple", "list", "sorted", "sum", "range", "all", "any", "isinstance", "enumerate", "zip", "bool", "dict", "set", "ValueError"] : List Str), PySem.W.nsIn K mainGlobals x = some none) (next : Nb mg → goal) : goal :=
  have n : ∀ x ∈ (["len", "max", "min", "abs", "int", "str", "tuple", "list", "sorted", "sum", "range", "all", "any", "isinstance", "enumerate", "zip", "bool", "dict", "set", "ValueError"] : List Str), mg x = none := fun x hx => PySem.W.mg_none_of KX G (b x hx)
  next ⟨n _ (by decide), n _ (by decide), n _ (by decide), n _ (by decide), n _ (by decide), n _ (by decide), n _ (by decide), n _ (by decide), n _ (by decide), n _ (by decide), n _ (by decide), n _ (by decide), n _ (by decide), n _ (by decide), n _ (by decide), n _ (by decide), n _ (by decide), n _ (by decide), n _ (by decide), n _ (by decide)⟩
/-- a class of errors as it stands behind the top -/
structure ClsF (K : PySem.W.Frag) (mg : Str → Option Value) (x : Str) (C : Addr) : Prop where
  m : mg x = some (.ref C)
  cl : PySem.W.isClsIn K C = true
  ty : PySem.W.typeIn K (.ref C) = some (.type "type")
  ex : PySem.W.subIn K (.ref C) (.type "BaseException") = some true
theorem cls_then {goal : Prop} {K : PySem.W.Frag} {mg : Str → Option Value} {h : Heap} (x : Str) (KX : K.In h) (G : h.Ns mainGlobals mg) {C : Addr} (a : PySem.W.nsIn K mainGlobals x = some (some (.ref C))) (b : PySem.W.isClsIn K C = true) (c : PySem.W.typeIn K (.ref C) = some (.type "type")) (d : PySem.W.subIn K (.ref C) (.type "BaseException") = some true) (next : ClsF K mg x C → goal) : goal := next ⟨PySem.W.mg_of KX G a, b, c, d⟩
theorem kit_ref {K : PySem.W.Frag} {mg : Str → Option Value} {y : Str} {C C' : Addr} {b : Bool} (F : ClsF K mg y C') (s : PySem.W.subIn K (.ref C) (.ref C) = some true) (h : PySem.W.subIn K (.ref C) (.ref C') = some b) : PySem.W.kitOne K (.ref C) (.ref C') = some b := by
  unfold PySem.W.kitOne
  split
  · rename_i e
    have e : (Value.ref C) = .ref C' := beq_iff_eq.mp e
    cases e
    rw [s] at h
    exact h
  · unfold PySem.W.kitCls
    have c1 : (PySem.W.clsIn K C').isSome = true := F.cl
    simp only [c1, F.ty, beq_self_eq_true, Bool.and_self, if_true]
    exact h
theorem kit_ty {K : PySem.W.Frag} {C : Addr} (h : PySem.W.subIn K (.ref C) (.type "ValueError") = some true) : PySem.W.kitOne K (.ref C) (.type "ValueError") = some true := by
  unfold PySem.W.kitOne
  split
  · rfl
  · unfold PySem.W.kitCls
    have k : PySem.W.kitMeta "ValueError" = true := by decide +kernel
    simp only [k, if_true]
    exact h
theorem exm_of {K : PySem.W.Frag} {mg : Str → Option Value} {y : Str} {C C' : Addr} {b : Bool} (F : ClsF K mg y C') (h : PySem.W.subIn K (.ref C) (.ref C') = some b) : PySem.W.exmOne K (.ref C) (.ref C') = some b := by
  unfold PySem.W.exmOne PySem.W.kitCls
  have c1 : (PySem.W.clsIn K C').isSome = true := F.cl
  simp only [F.ex, c1, F.ty, beq_self_eq_true, Bool.and_self, if_true]
  exact h
theorem exc_then {goal : Prop} {K : PySem.W.Frag} {mg : Str → Option Value} {h : Heap} {x : Str} {C : Addr} (KX : K.In h) (F : ClsF K mg x C) (q : PySem.W.excIn K C [.type "ValueError", .type "Exception", .type "BaseException", .type "object"] "ValueError.__new__" = true) (k : PySem.W.keepIn K (.ref C) = true) (next : DL.ExcC K mg x → goal) : goal :=
  next ⟨⟨C, F.m, q, k, F.ex, F.ty⟩⟩
theorem kf_then {goal : Prop} {K : PySem.W.Frag} {mg : Str → Option Value} {h : Heap} {x : Str} {C c1 c2 c3 c4 c5 c6 c7 c8 c9 c0 : Addr} (KX : K.In h) (m : ClsF K mg x C) (m1 : ClsF K mg "InvalidHappening" c1) (m2 : ClsF K mg "InvalidHouse" c2) (m3 : ClsF K mg "InvalidNumber" c3) (m4 : ClsF K mg "InvalidPlace" c4) (m5 : ClsF K mg "InvalidRow" c5) (m6 : ClsF K mg "InvalidRule" c6) (m7 : ClsF K mg "NoText" c7) (m8 : ClsF K mg "NothingToUndo" c8) (m9 : ClsF K mg "TooMany" c9) (m0 : ClsF K mg "LookError" c0)
    (e1 : PySem.W.findIn K (.ref C) "__getattribute__" = some (some (.builtin "BaseException.__getattribute__"))) (e2 : PySem.W.findIn K (.ref C) "__getattr__" = some none) (e4 : PySem.W.hasDictIn K C = true) (e5 : PySem.W.findIn K (.ref C) "__class__" = some (some (.builtin "object.__class__"))) (e6 : PySem.W.specialIn K (.builtin "object.__class__") "__get__" = some (some (.builtin "getset_descriptor.__get__"))) (e7 : PySem.W.takesIn K (.builtin "object.__class__") = some true) (e8 : PySem.W.mroIn K C (.type "object") = some true)
    (s : PySem.W.subIn K (.ref C) (.ref C) = some true) (o : ∀ p ∈ [(("InvalidHappening" : Str), c1), ("InvalidHouse", c2), ("InvalidNumber", c3), ("InvalidPlace", c4), ("InvalidRow", c5), ("InvalidRule", c6), ("NoText", c7), ("NothingToUndo", c8), ("TooMany", c9)], PySem.W.subIn K (.ref C) (.ref p.2) = some (p.1 == x)) (v : PySem.W.subIn K (.ref C) (.type "ValueError") = some true) (t : PySem.W.subIn K (.ref C) (.ref c9) = some false) (l : PySem.W.subIn K (.ref C) (.ref c0) = some true)
    (next : KF ⟨K, mg, [], 0⟩ x C → goal) : goal := by
  refine next ⟨m.m, ⟨e1, e2, m.ex, e4, e5, e6, e7, e8⟩, fun y hy => ?_, kit_ty v, ⟨c9, m9.m, exm_of m9 t⟩, ⟨c0, m0.m, exm_of m0 l⟩⟩
  have key : ∀ (l : List (Str × Addr)), (∀ p ∈ l, ClsF K mg p.1 p.2 ∧ PySem.W.subIn K (.ref C) (.ref p.2) = some (p.1 == x)) → y ∈ l.map (·.1) → ∃ C', mg y = some (.ref C') ∧ PySem.W.kitOne K (.ref C) (.ref C') = some (y == x) := fun l hl hm => by
    obtain ⟨p, hp, rfl⟩ := List.mem_map.mp hm
    exact ⟨p.2, (hl p hp).1.m, kit_ref (hl p hp).1 s (hl p hp).2⟩
  refine key _ (fun p hp => ⟨?_, o p hp⟩) hy
  rcases List.mem_cons.mp hp with rfl | hp; exact m1
  rcases List.mem_cons.mp hp with rfl | hp; exact m2
  rcases List.mem_cons.mp hp with rfl | hp; exact m3
  rcases List.mem_cons.mp hp with rfl | hp; exact m4
  rcases List.mem_cons.mp hp with rfl | hp; exact m5
  rcases List.mem_cons.mp hp with rfl | hp; exact m6
  rcases List.mem_cons.mp hp with rfl | hp; exact m7
  rcases List.mem_cons.mp hp with rfl | hp; exact m8
  rcases List.mem_cons.mp hp with rfl | hp; exact m9
  cases hp
theorem const_then {goal : Prop} {K : PySem.W.Frag} {mg : Str → Option Value} {h : Heap} (x : Str) (KX : K.In h) (G : h.Ns mainGlobals mg) {v : Value} (a : PySem.W.nsIn K mainGlobals x = some (some v)) (next : mg x = some v → goal) : goal := next (PySem.W.mg_of KX G a)
/-- a code object's parts -/
def codeVs (vs : Array Value) (c P : Addr) : Bool := (match (vs[11]? : Option Value) with | some (.ref P') => P' == P | _ => false) &&
      (match vs.getD 18 .none with | .str _ _ => true | _ => false) && (match vs.getD 7 .none with | .int _ _ => true | _ => false) &&
      (match vs.getD 9 .none with | .bool _ => true | _ => false) && (match vs.getD 10 .none with | .int _ _ => true | _ => false) && c != P
theorem codeHd_mk {K : PySem.W.Frag} {c P : Addr} {dd : Option Addr} {vs : Array Value} {sl : Array (Option Value)} (lc : K.lookup c = some ⟨.type "code", dd, .fields vs, sl⟩) (h : codeVs vs c P = true) : PySem.W.codeHdIn K c P = true := by
  unfold PySem.W.codeHdIn
  rw [lc]
  exact h
theorem law_fin {l : PySem.W.OpenLaw} {w : World} {K : PySem.W.Frag} {mg : Str → Option Value} {fa f c P : Addr} {h : Heap} {k n : Nat} {st : Stmt} {oc kV doc pm ct : Value} {od dd an : Option Addr} {osl sl : Array (Option Value)} {vs : Array Value} {m : FM} {q : Str} (KX : K.In h) (G : h.Ns mainGlobals mg) (hmg : mg "law" = some (.ref fa)) (own : OwnTab K fa h)
    (a : PySem.W.nsIn K mainGlobals "law" = some (some (.ref f))) (lk : K.lookup f = some ⟨oc, od, .func (PySem.W.fnOf "law" "law" (defArgs st) (defBody st) (defScope st) .none kV doc pm an (.ref c) ct), osl⟩) (hcd : PySem.W.codeIn K (.ref c) "law" = true)
    (lc : K.lookup c = some ⟨.type "code", dd, .fields vs, sl⟩) (hv : vs[11]? = some (.ref P)) (nP : K.lookup P = none) (ch : codeVs vs c P = true) (hb : ∀ (kV doc pm : Value) (an : Option Addr) (cdv ct : Value) (s : Shared) (u : Value), BindsTo s (PySem.W.fnOf "law" "law" (defArgs st) (defBody st) (defScope st) .none kV doc pm an cdv ct) ⟨[u], []⟩ [("script", u)])
    (plain : ∀ ns : List Int, ns.length ≤ n → (∀ z ∈ ns, Builtin.Int.intBits z ≤ 1048576) → ∃ cs, m [.d (.scr (ns.map D.int))] = .ret (.d (.bl true)) cs)
    (hF : ∀ base : Heap, TabB base mg c P → K.lookup f = some ⟨oc, od, .func (PySem.W.fnOf "law" "law" (defArgs st) (defBody st) (defScope st) .none kV doc pm an (.ref c) ct), osl⟩ → PySem.W.codeIn K (.ref c) "law" = true →
      FnOk l.prog w K mg base (L2N.CX l.prog w) k f (PySem.W.fnOf "law" "law" (defArgs st) (defBody st) (defScope st) .none kV doc pm an (.ref c) ct) ["script"] (spD ⟨K, mg, [(P, q)], 0⟩ [] m)) : LawAtS l w K (L2N.CX l.prog w) k n "script" mg fa h := by
  have e := hmg.symm.trans (PySem.W.mg_of KX G a)
  cases e
  exact lawAt_mk KX own lk rfl lc hv nP (codeHd_mk lc ch) (hb _ _ _ _ _ _) plain fun base _ _ TB => hF base TB lk hcd
theorem KF.re {K : PySem.W.Frag} {mg : Str → Option Value} {x : Str} {C : Addr} {T : List (Addr × Str)} (h : KF ⟨K, mg, [], 0⟩ x C) : KF ⟨K, mg, T, 0⟩ x C := ⟨h.name, h.exc, h.own, h.val, h.tm, h.le⟩
/-- no exception leaves it -/
theorem cx_never {P : Program} {w : World} {H : Hp} {s s' : Shared} {e : Value} (x : L2N.CX P w [] H s (fun _ _ _ => False) e s') : False := by
  obtain ⟨_, _, _, _, _, _, _, _, _, _, _, _, z⟩ := x
  exact z
end DH
/-! DP1: what mirrors give, computed step by step: each part's own word for what follows it. -/
namespace DL
open PySem PySem.Spec PyProof.Rows L2
section
variable {α β : Type} {ρ : Rho} {k : α → Rho → Out β} {ks : α → Rho → SO} {fa fb fc : M D} {ta tb : M Bool} {fs : M (List D)} {fr : M SV} {g h : SM}
theorem bind_ok {a : α} : (Out.ok a ρ).bind k = k a ρ := rfl
theorem bind_ex {x : Ex} : (Out.ex x ρ : Out α).bind k = .ex x ρ := rfl
theorem thenS_ok {a : α} : (Out.ok a ρ).thenS ks = ks a ρ := rfl
theorem thenS_ex {x : Ex} : (Out.ex x ρ : Out α).thenS ks = .ex x ρ := rfl
theorem of_some {a : α} : Out.of (some a) ρ = .ok a ρ := rfl
/-! ### expressions -/
theorem mC_eq {d : D} : mC d ρ = .ok d ρ := rfl
def kVar (i : Nat) (ρ : Rho) : Option (Option SV) → Out D
  | some (some (.d x)) => .ok x ρ
  | some (some (.o c)) => .ok c.toD (ρ.set i (some (.d c.toD)))
  | _ => .bad
theorem mVar_eq {i : Nat} : mVar i ρ = kVar i ρ ρ[i]? := rfl
def kMove (i : Nat) (ρ : Rho) : Option (Option SV) → Out SV
  | some (some r) => .ok r (ρ.set i none)
  | _ => .bad
theorem mMove_eq {i : Nat} : mMove i ρ = kMove i ρ ρ[i]? := rfl
def kD (d : D) (ρ : Rho) : Out SV := .ok (.d d) ρ
theorem mD_eq : mD fa ρ = (fa ρ).bind kD := rfl
def kF (r : SV) (ρ : Rho) : Out D := .ok r.toD ρ
theorem mF_eq : mF fr ρ = (fr ρ).bind kF := rfl
def kBin2 (g : D → D → Option D) (d e : D) (ρ : Rho) : Out D := .of (g d e) ρ
def kBin (g : D → D → Option D) (fb : M D) (d : D) (ρ : Rho) : Out D := (fb ρ).bind (kBin2 g d)
theorem mBin_eq {g : D → D → Option D} : mBin g fa fb ρ = (fa ρ).bind (kBin g fb) := rfl
def kBinB2 (g : D → D → Option Bool) (d e : D) (ρ : Rho) : Out Bool := .of (g d e) ρ
def kBinB (g : D → D → Option Bool) (fb : M D) (d : D) (ρ : Rho) : Out Bool := (fb ρ).bind (kBinB2 g d)
theorem mBinB_eq {g : D → D → Option Bool} : mBinB g fa fb ρ = (fa ρ).bind (kBinB g fb) := rfl
def kB (b : Bool) (ρ : Rho) : Out D := .ok (.bl b) ρ
theorem mB_eq : mB ta ρ = (ta ρ).bind kB := rfl
def kT : D → Rho → Out Bool
  | .bl b, ρ => .ok b ρ
  | _, _ => .bad
theorem mT_eq : mT fa ρ = (fa ρ).bind kT := by
  unfold mT; congr 1; funext d ρ1; cases d <;> rfl
def kChain3 (g' : D → D → Option Bool) (e h : D) (ρ : Rho) : Out Bool := .of (g' e h) ρ
def kChainB (g' : D → D → Option Bool) (fc : M D) (e : D) : Bool → Rho → Out Bool
  | true, ρ => (fc ρ).bind (kChain3 g' e)
  | false, ρ => .ok false ρ
def kChain2 (g g' : D → D → Option Bool) (fc : M D) (d e : D) (ρ : Rho) : Out Bool := (Out.of (g d e) ρ).bind (kChainB g' fc e)
def kChain (g g' : D → D → Option Bool) (fb fc : M D) (d : D) (ρ : Rho) : Out Bool := (fb ρ).bind (kChain2 g g' fc d)
theorem mChain_eq {g g' : D → D → Option Bool} : mChain g g' fa fb fc ρ = (fa ρ).bind (kChain g g' fb fc) := by
  unfold mChain kChain kChain2
  congr 1; funext d ρ1; congr 1; funext e ρ2; congr 1; funext b ρ3; cases b <;> rfl
def kAnd (tb : M Bool) : Bool → Rho → Out Bool
  | true, ρ => tb ρ
  | false, ρ => .ok false ρ
theorem mAnd_eq : mAnd ta tb ρ = (ta ρ).bind (kAnd tb) := by
  unfold mAnd; congr 1; funext b ρ1; cases b <;> rfl
def kOr (tb : M Bool) : Bool → Rho → Out Bool
  | true, ρ => .ok true ρ
  | false, ρ => tb ρ
theorem mOr_eq : mOr ta tb ρ = (ta ρ).bind (kOr tb) := by
  unfold mOr; congr 1; funext b ρ1; cases b <;> rfl
def kNot (b : Bool) (ρ : Rho) : Out Bool := .ok (!b) ρ
theorem mNot_eq : mNot ta ρ = (ta ρ).bind kNot := rfl
def kAndV (fb : M D) : D → Rho → Out D
  | .bl true, ρ => fb ρ
  | .bl false, ρ => .ok (.bl false) ρ
  | _, _ => .bad
theorem mAndV_eq : mAndV fa fb ρ = (fa ρ).bind (kAndV fb) := by
  unfold mAndV; congr 1; funext d ρ1; cases d <;> first | rfl | (rename_i b; cases b <;> rfl)
def kOrV (fb : M D) : D → Rho → Out D
  | .bl true, ρ => .ok (.bl true) ρ
  | .bl false, ρ => fb ρ
  | _, _ => .bad
theorem mOrV_eq : mOrV fa fb ρ = (fa ρ).bind (kOrV fb) := by
  unfold mOrV; congr 1; funext d ρ1; cases d <;> first | rfl | (rename_i b; cases b <;> rfl)
def kNotV : D → Rho → Out D
  | .bl b, ρ => .ok (.bl (!b)) ρ
  | _, _ => .bad
theorem mNotV_eq : mNotV fa ρ = (fa ρ).bind kNotV := by
  unfold mNotV; congr 1; funext d ρ1; cases d <;> rfl
def kIf (f g : M α) : Bool → Rho → Out α
  | true, ρ => f ρ
  | false, ρ => g ρ
theorem mIf_eq {f g : M α} : mIf ta f g ρ = (ta ρ).bind (kIf f g) := by
  unfold mIf; congr 1; funext b ρ1; cases b <;> rfl
theorem mNil_eq : mNil ρ = .ok [] ρ := rfl
def kCons2 (d : D) (ds : List D) (ρ : Rho) : Out (List D) := .ok (d :: ds) ρ
def kCons (r : M (List D)) (d : D) (ρ : Rho) : Out (List D) := (r ρ).bind (kCons2 d)
theorem mCons_eq : mCons fa fs ρ = (fa ρ).bind (kCons fs) := rfl
def kTupD (ds : List D) (ρ : Rho) : Out D := if ds.length ≤ sizeLine then .ok (.tup ds) ρ else .bad
theorem mTup_eq : mTup fs ρ = (fs ρ).bind kTupD := rfl
def kLst (ds : List D) (ρ : Rho) : Out SV := if ds.length ≤ sizeLine then .ok (.o (.lst ds)) ρ else .bad
theorem mLst_eq : mLst fs ρ = (fs ρ).bind kLst := rfl
def kUn (g : D → Option D) (d : D) (ρ : Rho) : Out D := .of (g d) ρ
theorem mUn_eq {g : D → Option D} : mUn g fa ρ = (fa ρ).bind (kUn g) := rfl
def kFun (g : List D → Option D) (ds : List D) (ρ : Rho) : Out D := .of (g ds) ρ
theorem mFun_eq {g : List D → Option D} : mFun g fs ρ = (fs ρ).bind (kFun g) := rfl
def kFunL2 (c : List D) (ρ : Rho) : Out SV := .ok (.o (.lst c)) ρ
def kFunL (g : List D → Option (List D)) (ds : List D) (ρ : Rho) : Out SV := (Out.of (g ds) ρ).bind kFunL2
theorem mFunL_eq {g : List D → Option (List D)} : mFunL g fs ρ = (fs ρ).bind (kFunL g) := rfl
def kCat (fb : M D) (d : D) (ρ : Rho) : Out SV := (fb ρ).bind (catK2 d)
theorem mCat_eq : mCat fa fb ρ = (fa ρ).bind (kCat fb) := by
  unfold mCat kCat
  congr 1; funext d ρ1; congr 1; funext e ρ2; cases d <;> cases e <;> rfl
def kStr2 (g : Str → D → Option D) (a : Str) (e : D) (ρ : Rho) : Out D := .of (g a e) ρ
def kStr1 (g : Str → D → Option D) (fb : M D) : D → Rho → Out D
  | .str a, ρ => (fb ρ).bind (kStr2 g a)
  | _, _ => .bad
theorem mStr1_eq {g : Str → D → Option D} : mStr1 g fa fb ρ = (fa ρ).bind (kStr1 g fb) := by
  unfold mStr1; congr 1; funext d ρ1; cases d <;> rfl
def kSplit2 (a : Str) : D → Rho → Out SV
  | .str b, ρ => if (b.length == 0) = false ∧ a.length + 2 ≤ sizeLine then .ok (.o (.lst ((Txt.split a b).map D.str))) ρ else .bad
  | _, _ => .bad
def kSplit (fb : M D) : D → Rho → Out SV
  | .str a, ρ => (fb ρ).bind (kSplit2 a)
  | _, _ => .bad
theorem mSplit_eq : mSplit fa fb ρ = (fa ρ).bind (kSplit fb) := by
  unfold mSplit; congr 1; funext d ρ1
  cases d <;> first | rfl | (simp only [kSplit]; congr 1; funext e ρ2; cases e <;> rfl)
theorem mNo_eq : mNo ρ = .ok none ρ := rfl
def kPart : D → Rho → Out (Option Int)
  | .int i, ρ => .ok (some i) ρ
  | _, _ => .bad
theorem mPart_eq : mPart fa ρ = (fa ρ).bind kPart := by
  unfold mPart; congr 1; funext d ρ1; cases d <;> rfl
def kSl3 (d : D) (l h : Option Int) (ρ : Rho) : Out D := .of (gSl d l h) ρ
def kSl2 (fh : M (Option Int)) (d : D) (l : Option Int) (ρ : Rho) : Out D := (fh ρ).bind (kSl3 d l)
def kSl (fl fh : M (Option Int)) (d : D) (ρ : Rho) : Out D := (fl ρ).bind (kSl2 fh d)
theorem mSl_eq {fl fh : M (Option Int)} : mSl fa fl fh ρ = (fa ρ).bind (kSl fl fh) := rfl
theorem mJs_nil {acc : Str} : mJs [] acc ρ = .ok (.str acc) ρ := rfl
def kJs (fs : List (M D)) (acc : Str) : D → Rho → Out D
  | .str y, ρ => if (acc ++ y).length ≤ sizeLine then mJs fs (acc ++ y) ρ else .bad
  | _, _ => .bad
theorem mJs_cons {f : M D} {fs : List (M D)} {acc : Str} : mJs (f :: fs) acc ρ = (f ρ).bind (kJs fs acc) := by
  rw [mJs]
  show (f ρ).bind _ = _
  congr 1; funext d ρ1; cases d <;> rfl
def kLenS (ρ : Rho) : Option (Option SV) → Out D
  | some (some (.o (.lst xs))) => .ok (.int xs.length) ρ
  | _ => .bad
theorem mLenS_eq {i : Nat} : mLenS i ρ = kLenS ρ ρ[i]? := rfl
def kIxS3 (ρ : Rho) : Option (Option SV) → D → Out D
  | some (some (.o (.lst xs))), .int j => .of (atI xs j) ρ
  | _, _ => .bad
def kIxS2 (i : Nat) (e : D) (ρ : Rho) : Out D := kIxS3 ρ ρ[i]? e
def kIxS (i : Nat) (fb : M D) (ρ : Rho) : Option (Option SV) → Out D
  | some (some (.o (.lst _))) => (fb ρ).bind (kIxS2 i)
  | _ => .bad
theorem mIxS_eq {i : Nat} : mIxS i fb ρ = kIxS i fb ρ ρ[i]? := by
  unfold mIxS
  generalize ρ[i]? = o
  unfold kIxS
  rcases o with _ | _ | x | x
  · rfl
  · rfl
  · rfl
  · cases x with
    | dic kvs => rfl
    | lst xs =>
      simp only []
      congr 1
/-! ### calls -/
theorem aNil_eq : aNil ρ = .ok [] ρ := rfl
def kA2 (d : D) (as : List Arg) (ρ : Rho) : Out (List Arg) := .ok (.d d :: as) ρ
def kA (r : M (List Arg)) (d : D) (ρ : Rho) : Out (List Arg) := (r ρ).bind (kA2 d)
theorem aD_eq {r : M (List Arg)} : aD fa r ρ = (fa ρ).bind (kA r) := rfl
def kAS2 (i : Nat) (as : List Arg) (ρ : Rho) : Out (List Arg) := .ok (.s i :: as) ρ
def kAS (i : Nat) (r : M (List Arg)) (ρ : Rho) : Option (Option SV) → Out (List Arg)
  | some (some (.o _)) => (r ρ).bind (kAS2 i)
  | _ => .bad
theorem aS_eq {i : Nat} {r : M (List Arg)} : aS i r ρ = kAS i r ρ ρ[i]? := by
  unfold aS kAS
  rcases ρ[i]? with _ | _ | x | x <;> rfl
def kCall3 (as : List Arg) (ρ : Rho) : FOut → Out SV
  | .ret r cs => .ok r (back as cs ρ)
  | .ex x cs => .ex x (back as cs ρ)
  | .bad => .bad
def kCall2 (ioI : List Nat) (m : FM) (as : List Arg) (ρ : Rho) : Option (List SV) → Out SV
  | some svs => if modesFrom 0 svs = ioI then kCall3 as ρ (m svs) else .bad
  | none => .bad
def kCall (ioI : List Nat) (m : FM) (as : List Arg) (ρ : Rho) : Out SV := if (slotsA as).Nodup then kCall2 ioI m as ρ (lookA ρ as) else .bad
theorem mCall_eq {ioI : List Nat} {m : FM} {f : M (List Arg)} : mCall ioI m f ρ = (f ρ).bind (kCall ioI m) := by
  unfold mCall kCall
  congr 1
def kLaw (ks : List Str) : Out D → Out D
  | .ok d ρ1 => .ok (.tup [.str "told", d]) ρ1
  | .ex x ρ1 => if x.fld.isNone = true ∧ x.cls ∈ ks then .ok (.tup [.str (DH.toldOf x.cls)]) ρ1 else .bad
  | .bad => .bad
theorem mLaw_eq {ks : List Str} : DH.mLaw ks fa ρ = kLaw ks (fa ρ) := by
  unfold DH.mLaw
  cases fa ρ <;> rfl
/-! ### statements -/
theorem sSkip_eq : sSkip ρ = .nx ρ := rfl
def SO.seq (o : SO) (h : SM) : SO := match o with
  | .nx ρ => h ρ
  | o => o
theorem sSeq_eq : sSeq g h ρ = (g ρ).seq h := by
  unfold sSeq SO.seq
  cases g ρ <;> rfl
theorem seq_nx : (SO.nx ρ).seq h = h ρ := rfl
theorem seq_rt {r : SV} : (SO.rt r ρ).seq h = .rt r ρ := rfl
theorem seq_ex {x : Ex} : (SO.ex x ρ).seq h = .ex x ρ := rfl
theorem seq_bk : (SO.bk ρ).seq h = .bk ρ := rfl
theorem seq_ct : (SO.ct ρ).seq h = .ct ρ := rfl
def kRet (r : SV) (ρ : Rho) : SO := .rt r ρ
theorem sRet_eq : sRet fr ρ = (fr ρ).thenS kRet := rfl
def kExpr (_ : α) (ρ : Rho) : SO := .nx ρ
theorem sExpr_eq {f : M α} : sExpr f ρ = (f ρ).thenS kExpr := rfl
def kIfS (g h : SM) : Bool → Rho → SO
  | true, ρ => g ρ
  | false, ρ => h ρ
theorem sIf_eq : sIf ta g h ρ = (ta ρ).thenS (kIfS g h) := by
  unfold sIf; congr 1; funext b ρ1; cases b <;> rfl
def kSet (i : Nat) (r : SV) (ρ : Rho) : SO := .nx (ρ.set i (some r))
theorem sSet_eq {i : Nat} : sSet i fr ρ = (fr ρ).thenS (kSet i) := rfl
def kPar (i j : Nat) : List D → Rho → SO
  | [d, e], ρ => .nx ((ρ.set i (some (.d d))).set j (some (.d e)))
  | _, _ => .bad
theorem sPar_eq {i j : Nat} : sPar i j fs ρ = (fs ρ).thenS (kPar i j) := by
  unfold sPar; congr 1; funext ds ρ1; rcases ds with _ | ⟨d, _ | ⟨e, _ | ⟨f, r⟩⟩⟩ <;> rfl
def SO.opt (o : Option Rho) (h : SM) : SO := match o with
  | some ρ => h ρ
  | none => .bad
theorem opt_some : SO.opt (some ρ) h = h ρ := rfl
def kAsg (g : GTm) (d : D) (ρ : Rho) : SO := SO.opt (g d ρ) .nx
theorem sAsg_eq {g : GTm} : sAsg g fa ρ = (fa ρ).thenS (kAsg g) := by
  unfold sAsg kAsg SO.opt; congr 1
def kApp3 (i : Nat) (d : D) (ρ : Rho) : Option (Option SV) → SO
  | some (some (.o (.lst xs))) => if xs.length < sizeLine then .nx (ρ.set i (some (.o (.lst (xs ++ [d]))))) else .bad
  | _ => .bad
def kApp2 (i : Nat) (d : D) (ρ : Rho) : SO := kApp3 i d ρ ρ[i]?
def kApp (i : Nat) (f : M D) (ρ : Rho) : Option (Option SV) → SO
  | some (some (.o (.lst _))) => (f ρ).thenS (kApp2 i)
  | _ => .bad
theorem sApp_eq {i : Nat} : sApp i fa ρ = kApp i fa ρ ρ[i]? := by
  unfold sApp
  generalize ρ[i]? = o
  unfold kApp
  rcases o with _ | _ | x | x
  · rfl
  · rfl
  · rfl
  · cases x with
    | dic kvs => rfl
    | lst xs =>
      simp only []
      congr 1
def kPut4 (i : Nat) (d : D) (xs : List D) (ρ : Rho) : Option Nat → SO
  | some n => .nx (ρ.set i (some (.o (.lst (xs.set n d)))))
  | none => .bad
def kPut3 (i : Nat) (d : D) (ρ : Rho) : Option (Option SV) → D → SO
  | some (some (.o (.lst xs))), .int j => kPut4 i d xs ρ (ixN xs.length j)
  | _, _ => .bad
def kPut2 (i : Nat) (d k : D) (ρ : Rho) : SO := kPut3 i d ρ ρ[i]? k
def kPut1 (i : Nat) (d : D) (fk : M D) (ρ : Rho) : Option (Option SV) → SO
  | some (some (.o (.lst _))) => (fk ρ).thenS (kPut2 i d)
  | _ => .bad
def kPut (i : Nat) (fk : M D) (d : D) (ρ : Rho) : SO := kPut1 i d fk ρ ρ[i]?
theorem sPut_eq {i : Nat} : sPut i fa fb ρ = (fa ρ).thenS (kPut i fb) := by
  unfold sPut
  congr 1
/-! ### a def -/
def SO.fin (o : SO) (args : List SV) : FOut := match o with
  | .nx ρ => .ret (.d .non) (outsFrom 0 ρ args)
  | .rt r ρ => .ret r (outsFrom 0 ρ args)
  | .ex x ρ => .ex x (outsFrom 0 ρ args)
  | _ => .bad
theorem mDef_eq {nN nP : Nat} {args : List SV} (hl : args.length = nP) : mDef nN nP g args = (g (args.map some ++ List.replicate (nN - nP) none)).fin args := by
  unfold mDef SO.fin
  rw [if_pos hl] <;> (cases g (args.map some ++ List.replicate (nN - nP) none) <;> rfl)
theorem fin_nx {args : List SV} : (SO.nx ρ).fin args = .ret (.d .non) (outsFrom 0 ρ args) := rfl
theorem fin_rt {r : SV} {args : List SV} : (SO.rt r ρ).fin args = .ret r (outsFrom 0 ρ args) := rfl
theorem fin_ex {x : Ex} {args : List SV} : (SO.ex x ρ).fin args = .ex x (outsFrom 0 ρ args) := rfl
/-! ### loops -/
def SO.loop (o : SO) (n : SM) : SO := match o with
  | .nx ρ => n ρ
  | .ct ρ => n ρ
  | .bk ρ => .nx ρ
  | o => o
theorem loop_nx : (SO.nx ρ).loop h = h ρ := rfl
theorem loop_ct : (SO.ct ρ).loop h = h ρ := rfl
theorem loop_bk : (SO.bk ρ).loop h = .nx ρ := rfl
theorem loop_rt {r : SV} : (SO.rt r ρ).loop h = .rt r ρ := rfl
theorem loop_ex {x : Ex} : (SO.ex x ρ).loop h = .ex x ρ := rfl
theorem forL_nil {gt : GTm} : sForL gt g [] ρ = .nx ρ := rfl
def kTurn (gt : GTm) (b : SM) (ds : List D) (ρ : Rho) : SO := (b ρ).loop (sForL gt b ds)
theorem forL_cons {gt : GTm} {d : D} {ds : List D} : sForL gt g (d :: ds) ρ = SO.opt (gt d ρ) (kTurn gt g ds) := by
  simp only [sForL, SO.opt]
  cases gt d ρ with
  | none => rfl
  | some ρ1 => simp only [kTurn]; unfold SO.loop; cases g ρ1 <;> rfl
def kFor (gt : GTm) (b : SM) (ds : List D) (ρ : Rho) : SO := sForL gt b ds ρ
theorem sFor_eq {gt : GTm} : sFor fs gt g ρ = (fs ρ).thenS (kFor gt g) := rfl
def kWh (c : M Bool) (b : SM) (n : Nat) : Bool → Rho → SO
  | true, ρ => (b ρ).loop (sWh c b n)
  | false, ρ => .nx ρ
theorem wh_succ {n : Nat} : sWh ta g (n + 1) ρ = (ta ρ).thenS (kWh ta g n) := by
  simp only [sWh]
  congr 1
  funext t ρ1
  cases t with
  | false => rfl
  | true => simp only [if_true, kWh]; unfold SO.loop; cases g ρ1 <;> rfl
/-- a loop that ends within n turns -/
theorem while_nx (n : Nat) {ρ1 : Rho} (h : sWh ta g n ρ = .nx ρ1) : sWhile ta g ρ = .nx ρ1 := sWhile_eq h (by simp)
def kSeq : D → Rho → Out (List D)
  | .tup xs, ρ => .ok xs ρ
  | .lst xs, ρ => .ok xs ρ
  | .scr xs, ρ => .ok xs ρ
  | _, _ => .bad
theorem mSeq_eq : mSeq fa ρ = (fa ρ).bind kSeq := by
  unfold mSeq; congr 1; funext d ρ1; cases d <;> rfl
def kRange1 : List D → Rho → Out (List D)
  | [.int j], ρ => if -(2 ^ 62) ≤ j ∧ j < 2 ^ 62 then .ok (rangeD 0 j.toNat) ρ else .bad
  | _, _ => .bad
theorem mRange1_eq : mRange1 fs ρ = (fs ρ).bind kRange1 := by
  unfold mRange1; congr 1; funext ds ρ1; rcases ds with _ | ⟨d, _ | ⟨e, r⟩⟩ <;> first | rfl | (cases d <;> rfl)
def kRange2 : List D → Rho → Out (List D)
  | [.int i, .int j], ρ => if -(2 ^ 62) ≤ i ∧ i < 2 ^ 62 ∧ -(2 ^ 62) ≤ j ∧ j < 2 ^ 62 then .ok (rangeD i (j - i).toNat) ρ else .bad
  | _, _ => .bad
theorem mRange2_eq : mRange2 fs ρ = (fs ρ).bind kRange2 := by
  unfold mRange2; congr 1; funext ds ρ1; rcases ds with _ | ⟨d, _ | ⟨e, _ | ⟨f, r⟩⟩⟩ <;> first | rfl | (cases d <;> rfl) | (cases d <;> cases e <;> rfl)
/-! ### comprehensions -/
theorem mYes_eq : mYes ρ = .ok true ρ := rfl
abbrev LcO := Option (List D × Rho)
def LcO.opt {γ : Type} (o : Option γ) (k : γ → LcO) : LcO := match o with
  | some r => k r
  | none => none
theorem lcopt_some {γ : Type} {r : γ} {k : γ → LcO} : LcO.opt (some r) k = k r := rfl
def LcO.out (o : Out α) (k : α → Rho → LcO) : LcO := match o with
  | .ok a ρ => k a ρ
  | _ => none
theorem lcout_ok {a : α} {k : α → Rho → LcO} : LcO.out (.ok a ρ) k = k a ρ := rfl
theorem lcL_nil {own : List Nat} {gt : GTm} {acc : List D} : lcL own gt ta fa [] ρ acc = some (acc, ρ) := rfl
def kLc3 (own : List Nat) (gt : GTm) (t : M Bool) (f : M D) (ds : List D) (acc : List D) (y : D) (ρ : Rho) : LcO := if acc.length < sizeLine then lcL own gt t f ds (wipeR ρ own) (acc ++ [y]) else none
def kLc2 (own : List Nat) (gt : GTm) (t : M Bool) (f : M D) (ds : List D) (acc : List D) : Bool → Rho → LcO
  | true, ρ => LcO.out (f ρ) (kLc3 own gt t f ds acc)
  | false, ρ => lcL own gt t f ds (wipeR ρ own) acc
def kLc1 (own : List Nat) (gt : GTm) (t : M Bool) (f : M D) (ds : List D) (acc : List D) (ρ : Rho) : LcO := LcO.out (t ρ) (kLc2 own gt t f ds acc)
theorem lcL_cons {own : List Nat} {gt : GTm} {d : D} {ds acc : List D} : lcL own gt ta fa (d :: ds) ρ acc = LcO.opt (gt d ρ) (kLc1 own gt ta fa ds acc) := by
  simp only [lcL, LcO.opt]
  cases gt d ρ with
  | none => rfl
  | some ρ1 =>
    simp only [kLc1, LcO.out]
    cases ta ρ1 with
    | ok b ρ2 =>
      cases b with
      | false => rfl
      | true =>
        simp only [if_true, kLc2, LcO.out]
        cases fa ρ2 <;> rfl
    | ex x ρ2 => rfl
    | bad => rfl
def kLcEnd (own : List Nat) (ρ1 : Rho) : LcO → Out SV
  | some (ys, ρ2) => .ok (.o (.lst ys)) (restore ρ1 own ρ2)
  | none => .bad
def kLc (own : List Nat) (gt : GTm) (t : M Bool) (f : M D) (ds : List D) (ρ : Rho) : Out SV := kLcEnd own ρ (lcL own gt t f ds (wipeR ρ own) [])
theorem mLc_eq {own : List Nat} {gt : GTm} : mLc own fs gt ta fa ρ = (fs ρ).bind (kLc own gt ta fa) := by
  unfold mLc kLc
  congr 1
/-- each item gives one, the slots stay -/
theorem lcL_map {own : List Nat} {gt : GTm} (f : D → D) : ∀ (ds acc : List D), (∀ d ∈ ds, ∃ ρ1, gt d ρ = some ρ1 ∧ ta ρ1 = .ok true ρ1 ∧ fa ρ1 = .ok (f d) ρ1 ∧ wipeR ρ1 own = ρ) → acc.length + ds.length ≤ sizeLine → lcL own gt ta fa ds ρ acc = some (acc ++ ds.map f, ρ)
  | [], acc, _, _ => by rw [lcL_nil, List.map_nil, List.append_nil]
  | d :: ds, acc, h, hl => by
    obtain ⟨ρ1, h1, h2, h3, h4⟩ := h d List.mem_cons_self
    rw [List.length_cons] at hl
    rw [lcL_cons, h1, lcopt_some, kLc1, h2, lcout_ok, kLc2, h3, lcout_ok, kLc3, if_pos (by omega), h4, lcL_map f ds (acc ++ [f d]) (fun e he => h e (List.mem_cons_of_mem _ he)) (by rw [List.length_append, List.length_singleton]; omega), List.map_cons, List.append_assoc, List.singleton_append]
theorem lcL_two {γ : Type} {own : List Nat} {gt : GTm} (a b : γ → D) : ∀ (R : List γ) (acc : List D), (∀ s ∈ R, ∃ ρ1, gt (a s) ρ = some ρ1 ∧ ta ρ1 = .ok true ρ1 ∧ fa ρ1 = .ok (b s) ρ1 ∧ wipeR ρ1 own = ρ) → acc.length + R.length ≤ sizeLine → lcL own gt ta fa (R.map a) ρ acc = some (acc ++ R.map b, ρ)
  | [], acc, _, _ => by rw [List.map_nil, lcL_nil, List.map_nil, List.append_nil]
  | d :: ds, acc, h, hl => by
    obtain ⟨ρ1, h1, h2, h3, h4⟩ := h d List.mem_cons_self
    rw [List.length_cons] at hl
    rw [List.map_cons, lcL_cons, h1, lcopt_some, kLc1, h2, lcout_ok, kLc2, h3, lcout_ok, kLc3, if_pos (by omega), h4, lcL_two a b ds (acc ++ [b d]) (fun e he => h e (List.mem_cons_of_mem _ he)) (by rw [List.length_append, List.length_singleton]; omega), List.map_cons, List.append_assoc, List.singleton_append]
/-- a loop, what stays true told by what is left -/
theorem forL_inv {γ : Type} {gt : GTm} {b : SM} (a : γ → D) (I : List γ → Rho → Prop) (h : ∀ s rest ρ, I (s :: rest) ρ → ∃ ρ1 ρ2, gt (a s) ρ = some ρ1 ∧ b ρ1 = .nx ρ2 ∧ I rest ρ2) : ∀ (R : List γ) (ρ : Rho), I R ρ → ∃ ρ', sForL gt b (R.map a) ρ = .nx ρ' ∧ I [] ρ'
  | [], ρ, i => ⟨ρ, rfl, i⟩
  | s :: R, ρ, i => by
    obtain ⟨ρ1, ρ2, h1, h2, h3⟩ := h s R ρ i
    obtain ⟨ρ', h4, h5⟩ := forL_inv a I h R ρ2 h3
    exact ⟨ρ', by rw [List.map_cons, forL_cons, h1, opt_some, kTurn, h2, loop_nx, h4], h5⟩
theorem kR1 {j : Int} (h0 : 0 ≤ j) (h1 : j ≤ 1000) : kRange1 [.int j] ρ = .ok ((List.range j.toNat).map fun (i : Nat) => D.int (0 + i)) ρ := by
  show (if -(2 ^ 62) ≤ j ∧ j < 2 ^ 62 then Out.ok (rangeD 0 j.toNat) ρ else Out.bad) = _
  rw [if_pos (by omega)]
  rfl
/-- a loop that keeps all slots but its name's -/
theorem forL_keep {i : Nat} {b : SM} : ∀ (ds : List D) (y : Option SV), (∀ d ∈ ds, b (ρ.set i (some (.d d))) = .nx (ρ.set i (some (.d d)))) → ∃ x, sForL (gN i) b ds (ρ.set i y) = .nx (ρ.set i x)
  | [], y, _ => ⟨y, rfl⟩
  | d :: ds, y, h => by
    obtain ⟨x, e⟩ := forL_keep ds (some (.d d)) fun e he => h e (List.mem_cons_of_mem _ he)
    refine ⟨x, ?_⟩
    rw [forL_cons, gN, opt_some, List.set_set, kTurn, h d List.mem_cons_self, loop_nx, e]
/-! ### small numbers -/
theorem small_log {i : Int} (h : i.natAbs ≤ 1000000000000) : i.natAbs.log2 < 64 := by
  by_cases z : i.natAbs = 0
  · rw [z]; decide
  · rw [Nat.log2_lt z]; omega
theorem gSub_int {i j : Int} : gSub (.int i) (.int j) = some (.int (i - j)) := rfl
theorem gMul_small {i j : Int} (hi : i.natAbs ≤ 1000000000000) (hj : j.natAbs ≤ 1000000000000) : gMul (.int i) (.int j) = some (.int (i * j)) := by
  have h1 := small_log hi
  have h2 := small_log hj
  simp only [gMul, gI]
  rw [if_pos (by simp; omega)]
theorem gDiv_small {i j : Int} (h : 0 < j) (hj : j.natAbs ≤ 1000000000000) : gDiv (.int i) (.int j) = some (.int (i / j)) := by
  have h2 := small_log hj
  simp only [gDiv, gI]
  rw [if_pos (by simp; omega)]
theorem gMod_pos {i j : Int} (h : 0 < j) : gMod (.int i) (.int j) = some (.int (i % j)) := by
  simp only [gMod, gI]
  rw [if_pos (by simp; exact h)]
/-! ### sizes -/
theorem szl_0 : (0 ≤ sizeLine) = True := by decide
theorem szl_1 : (0 + 1 ≤ sizeLine) = True := by decide
theorem szl_2 : (0 + 1 + 1 ≤ sizeLine) = True := by decide
theorem szl_3 : (0 + 1 + 1 + 1 ≤ sizeLine) = True := by decide
theorem szl_4 : (0 + 1 + 1 + 1 + 1 ≤ sizeLine) = True := by decide
theorem szl_5 : (0 + 1 + 1 + 1 + 1 + 1 ≤ sizeLine) = True := by decide
theorem szl_6 : (0 + 1 + 1 + 1 + 1 + 1 + 1 ≤ sizeLine) = True := by decide
theorem szl_7 : (0 + 1 + 1 + 1 + 1 + 1 + 1 + 1 ≤ sizeLine) = True := by decide
theorem szl_8 : (0 + 1 + 1 + 1 + 1 + 1 + 1 + 1 + 1 ≤ sizeLine) = True := by decide
theorem szl_9 : (0 + 1 + 1 + 1 + 1 + 1 + 1 + 1 + 1 + 1 ≤ sizeLine) = True := by decide
theorem szl_10 : (0 + 1 + 1 + 1 + 1 + 1 + 1 + 1 + 1 + 1 + 1 ≤ sizeLine) = True := by decide
theorem szl_11 : (0 + 1 + 1 + 1 + 1 + 1 + 1 + 1 + 1 + 1 + 1 + 1 ≤ sizeLine) = True := by decide
theorem szl_12 : (0 + 1 + 1 + 1 + 1 + 1 + 1 + 1 + 1 + 1 + 1 + 1 + 1 ≤ sizeLine) = True := by decide
theorem szs_0 : (0 < sizeLine) = True := by decide
theorem szs_1 : (0 + 1 < sizeLine) = True := by decide
theorem szs_2 : (0 + 1 + 1 < sizeLine) = True := by decide
theorem szs_3 : (0 + 1 + 1 + 1 < sizeLine) = True := by decide
theorem szs_4 : (0 + 1 + 1 + 1 + 1 < sizeLine) = True := by decide
theorem szs_5 : (0 + 1 + 1 + 1 + 1 + 1 < sizeLine) = True := by decide
theorem szs_6 : (0 + 1 + 1 + 1 + 1 + 1 + 1 < sizeLine) = True := by decide
theorem szs_7 : (0 + 1 + 1 + 1 + 1 + 1 + 1 + 1 < sizeLine) = True := by decide
theorem szs_8 : (0 + 1 + 1 + 1 + 1 + 1 + 1 + 1 + 1 < sizeLine) = True := by decide
theorem szs_9 : (0 + 1 + 1 + 1 + 1 + 1 + 1 + 1 + 1 + 1 < sizeLine) = True := by decide
theorem szs_10 : (0 + 1 + 1 + 1 + 1 + 1 + 1 + 1 + 1 + 1 + 1 < sizeLine) = True := by decide
theorem szs_11 : (0 + 1 + 1 + 1 + 1 + 1 + 1 + 1 + 1 + 1 + 1 + 1 < sizeLine) = True := by decide
theorem szs_12 : (0 + 1 + 1 + 1 + 1 + 1 + 1 + 1 + 1 + 1 + 1 + 1 + 1 < sizeLine) = True := by decide
/-! ### places -/
theorem atI_nat {xs : List D} (n : Nat) : atI xs (n : Int) = xs[n]? := by
  unfold atI ixN
  rw [if_pos (Int.natCast_nonneg n)]
  by_cases h : n < xs.length
  · rw [if_pos (by omega)]
    simp
  · rw [if_neg (by omega), List.getElem?_eq_none (by omega)]
    rfl
theorem atI_0 {xs : List D} : atI xs 0 = xs[0]? := atI_nat 0
theorem atI_1 {xs : List D} : atI xs 1 = xs[1]? := atI_nat 1
theorem atI_2 {xs : List D} : atI xs 2 = xs[2]? := atI_nat 2
theorem atI_3 {xs : List D} : atI xs 3 = xs[3]? := atI_nat 3
theorem atI_4 {xs : List D} : atI xs 4 = xs[4]? := atI_nat 4
theorem atI_5 {xs : List D} : atI xs 5 = xs[5]? := atI_nat 5
theorem atI_6 {xs : List D} : atI xs 6 = xs[6]? := atI_nat 6
theorem ixN_0 {n : Nat} : ixN (n + 1) 0 = some 0 := by
  unfold ixN
  rw [if_pos (by omega), if_pos (by omega)]
  rfl
theorem ixN_1 {n : Nat} : ixN (n + 1 + 1) 1 = some 1 := by
  unfold ixN
  rw [if_pos (by omega), if_pos (by omega)]
  rfl
/-! ### comparisons -/
theorem cEq_int {i j : Int} : cEq (.int i) (.int j) = some (i == j) := rfl
theorem cNe_int {i j : Int} : cNe (.int i) (.int j) = some (!(i == j)) := rfl
end
end DL
namespace Lw
open PySem PySem.Spec PyProof.Rows L2 L2H DL DH HotX LamX
def ks : List Str := ["InvalidHouse", "InvalidRule"]
def topS (i : Nat) : Stmt := PySem.Challenge.pw_lookrounds_k15_rules_as_texts.main.body.getD i (.Pass ⟨0, 0, 0, 0⟩)
abbrev st_is_int : Stmt := topS 13
abbrev nm_is_int : List Str := ["value", "low", "high"]
theorem sc_is_int : FnScope nm_is_int ["value", "low", "high"] (defScope st_is_int) := ⟨rfl, rfl, rfl, by decide +kernel, rfl, by decide +kernel, by decide +kernel⟩
noncomputable def pk_is_int : { g : SM // ∀ {P : Program} {w : World} {Z : Zx} {base : Heap} {f : Addr} {cdv : Value} {A : Around} {outer : List Env} {s : Shared} {H : Hp} {E : XK} (hr : Room 0 (A.deeper (envOfC "is_int" (defScope st_is_int) s.heap.objs.size f cdv))) (N : Nb Z.mg),
    SB (cxOf (L2N.CX P w) P w Z.K Z.mg base nm_is_int "is_int" (defScope st_is_int) f cdv A outer s H E) Z [] (fun cls d _ H => E cls d H) (defBody st_is_int) g } :=
  ⟨_, fun {P w Z base f cdv A outer s H E} hr N =>
    have nd := sc_is_int.nd
    have tk : L2N.Takes (cxOf (L2N.CX P w) P w Z.K Z.mg base nm_is_int "is_int" (defScope st_is_int) f cdv A outer s H E) (fun cls d _ H => E cls d H) := L2N.takes_of rfl rfl rfl rfl
    have po : PassesOwn (model P w) (cxOf (L2N.CX P w) P w Z.K Z.mg base nm_is_int "is_int" (defScope st_is_int) f cdv A outer s H E).A (cxOf (L2N.CX P w) P w Z.K Z.mg base nm_is_int "is_int" (defScope st_is_int) f cdv A outer s H E).env (cxOf (L2N.CX P w) P w Z.K Z.mg base nm_is_int "is_int" (defScope st_is_int) f cdv A outer s H E).xe := passes_of (X := (cxOf (L2N.CX P w) P w Z.K Z.mg base nm_is_int "is_int" (defScope st_is_int) f cdv A outer s H E)) rfl
    (sb_one (ss_ret (er_ev (ev_and (ev_isi N.isinstance N.int bt_int (ev_var 0)) (ev_and (ev_not (ev_isi N.isinstance N.bool bt_bool (ev_var 0))) (ev_one (ev_chain c_le c_le (ev_var 1) (ev_var 0) (ev_var 2))))))))⟩
noncomputable def m_is_int : FM := mDef 3 3 pk_is_int.1
theorem ok_is_int {P : Program} {w : World} {Z : Zx} {base : Heap} (A : FunAt Z "is_int" st_is_int ["value", "low", "high"]) (N : Nb Z.mg) : DefOk P w Z base "is_int" 1 ["value", "low", "high"] [] m_is_int := by
  obtain ⟨f, fd, h1, h2, h3⟩ := A
  exact defOk h1 sc_is_int h2 h3 fun cdv A outer s H E hr => pk_is_int.2 hr N
abbrev st_are_ints : Stmt := topS 14
abbrev nm_are_ints : List Str := ["value", "many", "low", "high", "one"]
theorem sc_are_ints : FnScope nm_are_ints ["value", "many", "low", "high"] (defScope st_are_ints) := ⟨rfl, rfl, rfl, by decide +kernel, rfl, by decide +kernel, by decide +kernel⟩
noncomputable def pk_are_ints : { g : SM // ∀ {P : Program} {w : World} {Z : Zx} {base : Heap} {f : Addr} {cdv : Value} {A : Around} {outer : List Env} {s : Shared} {H : Hp} {E : XK} (hr : Room 1 (A.deeper (envOfC "are_ints" (defScope st_are_ints) s.heap.objs.size f cdv))) (N : Nb Z.mg) (F_is_int : DefOk P w Z base "is_int" 1 ["value", "low", "high"] [] m_is_int),
    SB (cxOf (L2N.CX P w) P w Z.K Z.mg base nm_are_ints "are_ints" (defScope st_are_ints) f cdv A outer s H E) Z [] (fun cls d _ H => E cls d H) (defBody st_are_ints) g } :=
  ⟨_, fun {P w Z base f cdv A outer s H E} hr N F_is_int =>
    have nd := sc_are_ints.nd
    have tk : L2N.Takes (cxOf (L2N.CX P w) P w Z.K Z.mg base nm_are_ints "are_ints" (defScope st_are_ints) f cdv A outer s H E) (fun cls d _ H => E cls d H) := L2N.takes_of rfl rfl rfl rfl
    have po : PassesOwn (model P w) (cxOf (L2N.CX P w) P w Z.K Z.mg base nm_are_ints "are_ints" (defScope st_are_ints) f cdv A outer s H E).A (cxOf (L2N.CX P w) P w Z.K Z.mg base nm_are_ints "are_ints" (defScope st_are_ints) f cdv A outer s H E).env (cxOf (L2N.CX P w) P w Z.K Z.mg base nm_are_ints "are_ints" (defScope st_are_ints) f cdv A outer s H E).xe := passes_of (X := (cxOf (L2N.CX P w) P w Z.K Z.mg base nm_are_ints "are_ints" (defScope st_are_ints) f cdv A outer s H E)) rfl
    (sb_one (ss_ret (er_ev (ev_and (ev_isi N.isinstance N.tuple bt_tuple (ev_var 0)) (ev_and (ev_cmp (c_eq hr.units) (ev_callB f_len N.len boot_len (el_cons (ev_var 0) el_nil)) (ev_var 1)) (ev_one (ev_callB f_all N.all bt_all (el_cons (ev_er (er_lc nd (ei_list (ev_var 0)) (blkOk_by (own := [("one", 4)]) (N := nm_are_ints) (sc := defScope st_are_ints) (by decide +kernel)) (fun _ _ _ _ _ => (gt_name 4 nd)) (fun _ _ _ _ _ => ets_nil) (fun _ _ _ _ _ => (ev_er (er_call F_is_int hr takesW0 (ea_d (ev_var 4) (ea_d (ev_var 2) (ea_d (ev_var 3) ea_nil)))))))) el_nil))))))))⟩
noncomputable def m_are_ints : FM := mDef 5 4 pk_are_ints.1
theorem ok_are_ints {P : Program} {w : World} {Z : Zx} {base : Heap} (A : FunAt Z "are_ints" st_are_ints ["value", "many", "low", "high"]) (N : Nb Z.mg) (F_is_int : DefOk P w Z base "is_int" 1 ["value", "low", "high"] [] m_is_int) : DefOk P w Z base "are_ints" 2 ["value", "many", "low", "high"] [] m_are_ints := by
  obtain ⟨f, fd, h1, h2, h3⟩ := A
  exact defOk h1 sc_are_ints h2 h3 fun cdv A outer s H E hr => pk_are_ints.2 hr N F_is_int
abbrev st_is_house : Stmt := topS 15
abbrev nm_is_house : List Str := ["value"]
theorem sc_is_house : FnScope nm_is_house ["value"] (defScope st_is_house) := ⟨rfl, rfl, rfl, by decide +kernel, rfl, by decide +kernel, by decide +kernel⟩
noncomputable def pk_is_house : { g : SM // ∀ {P : Program} {w : World} {Z : Zx} {base : Heap} {f : Addr} {cdv : Value} {A : Around} {outer : List Env} {s : Shared} {H : Hp} {E : XK} (hr : Room 2 (A.deeper (envOfC "is_house" (defScope st_is_house) s.heap.objs.size f cdv))) (N : Nb Z.mg) (F_is_int : DefOk P w Z base "is_int" 1 ["value", "low", "high"] [] m_is_int) (F_are_ints : DefOk P w Z base "are_ints" 2 ["value", "many", "low", "high"] [] m_are_ints),
    SB (cxOf (L2N.CX P w) P w Z.K Z.mg base nm_is_house "is_house" (defScope st_is_house) f cdv A outer s H E) Z [] (fun cls d _ H => E cls d H) (defBody st_is_house) g } :=
  ⟨_, fun {P w Z base f cdv A outer s H E} hr N F_is_int F_are_ints =>
    have nd := sc_is_house.nd
    have tk : L2N.Takes (cxOf (L2N.CX P w) P w Z.K Z.mg base nm_is_house "is_house" (defScope st_is_house) f cdv A outer s H E) (fun cls d _ H => E cls d H) := L2N.takes_of rfl rfl rfl rfl
    have po : PassesOwn (model P w) (cxOf (L2N.CX P w) P w Z.K Z.mg base nm_is_house "is_house" (defScope st_is_house) f cdv A outer s H E).A (cxOf (L2N.CX P w) P w Z.K Z.mg base nm_is_house "is_house" (defScope st_is_house) f cdv A outer s H E).env (cxOf (L2N.CX P w) P w Z.K Z.mg base nm_is_house "is_house" (defScope st_is_house) f cdv A outer s H E).xe := passes_of (X := (cxOf (L2N.CX P w) P w Z.K Z.mg base nm_is_house "is_house" (defScope st_is_house) f cdv A outer s H E)) rfl
    (sb_cons (ss_if (et_ew (ew_or (et_not (et_val (ev_isi N.isinstance N.tuple bt_tuple (ev_var 0)))) (ew_or (et_cmp (c_ne hr.units) (ev_callB f_len N.len boot_len (el_cons (ev_var 0) el_nil)) ev_int) (ew_or1 (et_not (et_val (ev_er (er_call F_is_int hr tk (ea_d (ev_ix (ev_var 0) ev_int) (ea_d ev_int (ea_d ev_int ea_nil)))))))))))
      (sb_one (ss_ret (er_ev ev_bl)))
      sb_nil)
    (sb_cons (ss_if (et_ew (ew_and (et_not (et_val (ev_er (er_call F_are_ints hr tk (ea_d (ev_ix (ev_var 0) ev_int) (ea_d ev_int (ea_d ev_int (ea_d ev_int ea_nil)))))))) (ew_and1 (et_not (et_val (ev_er (er_call F_are_ints hr tk (ea_d (ev_ix (ev_var 0) ev_int) (ea_d ev_int (ea_d ev_int (ea_d ev_int ea_nil)))))))))))
      (sb_one (ss_ret (er_ev ev_bl)))
      sb_nil)
    (sb_one (ss_ret (er_call F_are_ints hr tk (ea_d (ev_ix (ev_var 0) ev_int) (ea_d (ev_if (et_cmp (c_eq hr.units) (ev_callB f_len N.len boot_len (el_cons (ev_ix (ev_var 0) ev_int) el_nil)) ev_int) ev_int ev_int) (ea_d ev_int (ea_d ev_int ea_nil)))))))))⟩
noncomputable def m_is_house : FM := mDef 1 1 pk_is_house.1
theorem ok_is_house {P : Program} {w : World} {Z : Zx} {base : Heap} (A : FunAt Z "is_house" st_is_house ["value"]) (N : Nb Z.mg) (F_is_int : DefOk P w Z base "is_int" 1 ["value", "low", "high"] [] m_is_int) (F_are_ints : DefOk P w Z base "are_ints" 2 ["value", "many", "low", "high"] [] m_are_ints) : DefOk P w Z base "is_house" 3 ["value"] [] m_is_house := by
  obtain ⟨f, fd, h1, h2, h3⟩ := A
  exact defOk h1 sc_is_house h2 h3 fun cdv A outer s H E hr => pk_is_house.2 hr N F_is_int F_are_ints
abbrev st_size_of : Stmt := topS 16
abbrev nm_size_of : List Str := ["house", "many", "places", "longest"]
theorem sc_size_of : FnScope nm_size_of ["house", "many"] (defScope st_size_of) := ⟨rfl, rfl, rfl, by decide +kernel, rfl, by decide +kernel, by decide +kernel⟩
noncomputable def pk_size_of : { g : SM // ∀ {P : Program} {w : World} {Z : Zx} {base : Heap} {f : Addr} {cdv : Value} {A : Around} {outer : List Env} {s : Shared} {H : Hp} {E : XK} (hr : Room 0 (A.deeper (envOfC "size_of" (defScope st_size_of) s.heap.objs.size f cdv))) (N : Nb Z.mg),
    SB (cxOf (L2N.CX P w) P w Z.K Z.mg base nm_size_of "size_of" (defScope st_size_of) f cdv A outer s H E) Z [] (fun cls d _ H => E cls d H) (defBody st_size_of) g } :=
  ⟨_, fun {P w Z base f cdv A outer s H E} hr N =>
    have nd := sc_size_of.nd
    have tk : L2N.Takes (cxOf (L2N.CX P w) P w Z.K Z.mg base nm_size_of "size_of" (defScope st_size_of) f cdv A outer s H E) (fun cls d _ H => E cls d H) := L2N.takes_of rfl rfl rfl rfl
    have po : PassesOwn (model P w) (cxOf (L2N.CX P w) P w Z.K Z.mg base nm_size_of "size_of" (defScope st_size_of) f cdv A outer s H E).A (cxOf (L2N.CX P w) P w Z.K Z.mg base nm_size_of "size_of" (defScope st_size_of) f cdv A outer s H E).env (cxOf (L2N.CX P w) P w Z.K Z.mg base nm_size_of "size_of" (defScope st_size_of) f cdv A outer s H E).xe := passes_of (X := (cxOf (L2N.CX P w) P w Z.K Z.mg base nm_size_of "size_of" (defScope st_size_of) f cdv A outer s H E)) rfl
    (sb_cons (ss_par 2 3 (el_cons (ev_callB f_len N.len boot_len (el_cons (ev_ix (ev_var 0) ev_int) el_nil)) (el_cons (ev_callB (f_maxS hr.units) N.max bt_max (el_cons (ev_ix (ev_var 0) ev_int) el_nil)) el_nil)) nd)
    (sb_one (ss_ret (er_ev (ev_bin b_mul (ev_bin b_mul (ev_bin b_mul (ev_bin b_mul (ev_bin b_mul (ev_var 2) (ev_var 3)) (ev_var 3)) (ev_ix (ev_er (er_lst (el_cons ev_int (el_cons ev_int (el_cons ev_int (el_cons ev_int el_nil)))))) (ev_var 2))) (ev_ix (ev_var 0) ev_int)) (ev_var 1))))))⟩
noncomputable def m_size_of : FM := mDef 4 2 pk_size_of.1
theorem ok_size_of {P : Program} {w : World} {Z : Zx} {base : Heap} (A : FunAt Z "size_of" st_size_of ["house", "many"]) (N : Nb Z.mg) : DefOk P w Z base "size_of" 1 ["house", "many"] [] m_size_of := by
  obtain ⟨f, fd, h1, h2, h3⟩ := A
  exact defOk h1 sc_size_of h2 h3 fun cdv A outer s H E hr => pk_size_of.2 hr N
abbrev st_is_rule_of : Stmt := topS 17
abbrev nm_is_rule_of : List Str := ["house", "value", "state"]
theorem sc_is_rule_of : FnScope nm_is_rule_of ["house", "value"] (defScope st_is_rule_of) := ⟨rfl, rfl, rfl, by decide +kernel, rfl, by decide +kernel, by decide +kernel⟩
noncomputable def pk_is_rule_of : { g : SM // ∀ {P : Program} {w : World} {Z : Zx} {base : Heap} {f : Addr} {cdv : Value} {A : Around} {outer : List Env} {s : Shared} {H : Hp} {E : XK} (hr : Room 2 (A.deeper (envOfC "is_rule_of" (defScope st_is_rule_of) s.heap.objs.size f cdv))) (N : Nb Z.mg) (F_are_ints : DefOk P w Z base "are_ints" 2 ["value", "many", "low", "high"] [] m_are_ints) (F_size_of : DefOk P w Z base "size_of" 1 ["house", "many"] [] m_size_of) (c_MOST_STANDS : ∃ t, Z.mg "MOST_STANDS" = some (.int 4000 t)),
    SB (cxOf (L2N.CX P w) P w Z.K Z.mg base nm_is_rule_of "is_rule_of" (defScope st_is_rule_of) f cdv A outer s H E) Z [] (fun cls d _ H => E cls d H) (defBody st_is_rule_of) g } :=
  ⟨_, fun {P w Z base f cdv A outer s H E} hr N F_are_ints F_size_of c_MOST_STANDS =>
    have nd := sc_is_rule_of.nd
    have tk : L2N.Takes (cxOf (L2N.CX P w) P w Z.K Z.mg base nm_is_rule_of "is_rule_of" (defScope st_is_rule_of) f cdv A outer s H E) (fun cls d _ H => E cls d H) := L2N.takes_of rfl rfl rfl rfl
    have po : PassesOwn (model P w) (cxOf (L2N.CX P w) P w Z.K Z.mg base nm_is_rule_of "is_rule_of" (defScope st_is_rule_of) f cdv A outer s H E).A (cxOf (L2N.CX P w) P w Z.K Z.mg base nm_is_rule_of "is_rule_of" (defScope st_is_rule_of) f cdv A outer s H E).env (cxOf (L2N.CX P w) P w Z.K Z.mg base nm_is_rule_of "is_rule_of" (defScope st_is_rule_of) f cdv A outer s H E).xe := passes_of (X := (cxOf (L2N.CX P w) P w Z.K Z.mg base nm_is_rule_of "is_rule_of" (defScope st_is_rule_of) f cdv A outer s H E)) rfl
    (sb_cons (ss_if (et_ew (ew_or (et_not (et_val (ev_isi N.isinstance N.tuple bt_tuple (ev_var 1)))) (ew_or (et_not (et_chain c_le c_le ev_int (ev_callB f_len N.len boot_len (el_cons (ev_var 1) el_nil)) ev_int)) (ew_or1 (et_cmp c_gt (ev_er (er_call F_size_of hr tk (ea_d (ev_var 0) (ea_d (ev_callB f_len N.len boot_len (el_cons (ev_var 1) el_nil)) ea_nil)))) (ev_gInt rfl c_MOST_STANDS))))))
      (sb_one (ss_ret (er_ev ev_bl)))
      sb_nil)
    (sb_cons (ss_for po (ei_list (ev_var 1)) (gt_name 2 nd)
      (sb_one (ss_if (et_ew (ew_or (et_not (et_val (ev_er (er_call F_are_ints hr tk (ea_d (ev_var 2) (ea_d ev_int (ea_d ev_int (ea_d ev_int ea_nil)))))))) (ew_or (et_cmp c_ge (ev_ix (ev_var 2) ev_int) (ev_callB f_len N.len boot_len (el_cons (ev_ix (ev_var 0) ev_int) el_nil))) (ew_or1 (et_cmp c_ge (ev_callB (f_maxS hr.units) N.max bt_max (el_cons (ev_sl (ev_var 2) (eo_some ev_int) eo_none) el_nil)) (ev_callB f_len N.len boot_len (el_cons (ev_var 1) el_nil)))))))
        (sb_one (ss_ret (er_ev ev_bl)))
        sb_nil)))
    (sb_one (ss_ret (er_ev ev_bl)))))⟩
noncomputable def m_is_rule_of : FM := mDef 3 2 pk_is_rule_of.1
theorem ok_is_rule_of {P : Program} {w : World} {Z : Zx} {base : Heap} (A : FunAt Z "is_rule_of" st_is_rule_of ["house", "value"]) (N : Nb Z.mg) (F_are_ints : DefOk P w Z base "are_ints" 2 ["value", "many", "low", "high"] [] m_are_ints) (F_size_of : DefOk P w Z base "size_of" 1 ["house", "many"] [] m_size_of) (c_MOST_STANDS : ∃ t, Z.mg "MOST_STANDS" = some (.int 4000 t)) : DefOk P w Z base "is_rule_of" 3 ["house", "value"] [] m_is_rule_of := by
  obtain ⟨f, fd, h1, h2, h3⟩ := A
  exact defOk h1 sc_is_rule_of h2 h3 fun cdv A outer s H E hr => pk_is_rule_of.2 hr N F_are_ints F_size_of c_MOST_STANDS
abbrev st_need_house : Stmt := topS 18
abbrev nm_need_house : List Str := ["house"]
theorem sc_need_house : FnScope nm_need_house ["house"] (defScope st_need_house) := ⟨rfl, rfl, rfl, by decide +kernel, rfl, by decide +kernel, by decide +kernel⟩
noncomputable def pk_need_house : { g : SM // ∀ {P : Program} {w : World} {Z : Zx} {base : Heap} {f : Addr} {cdv : Value} {A : Around} {outer : List Env} {s : Shared} {H : Hp} {E : XK} (hr : Room 3 (A.deeper (envOfC "need_house" (defScope st_need_house) s.heap.objs.size f cdv))) (N : Nb Z.mg) (F_is_house : DefOk P w Z base "is_house" 3 ["value"] [] m_is_house) (x_InvalidHouse : ExcC Z.K Z.mg "InvalidHouse"),
    SB (cxOf (L2N.CX P w) P w Z.K Z.mg base nm_need_house "need_house" (defScope st_need_house) f cdv A outer s H E) Z [] (fun cls d _ H => E cls d H) (defBody st_need_house) g } :=
  ⟨_, fun {P w Z base f cdv A outer s H E} hr N F_is_house x_InvalidHouse =>
    have nd := sc_need_house.nd
    have tk : L2N.Takes (cxOf (L2N.CX P w) P w Z.K Z.mg base nm_need_house "need_house" (defScope st_need_house) f cdv A outer s H E) (fun cls d _ H => E cls d H) := L2N.takes_of rfl rfl rfl rfl
    have po : PassesOwn (model P w) (cxOf (L2N.CX P w) P w Z.K Z.mg base nm_need_house "need_house" (defScope st_need_house) f cdv A outer s H E).A (cxOf (L2N.CX P w) P w Z.K Z.mg base nm_need_house "need_house" (defScope st_need_house) f cdv A outer s H E).env (cxOf (L2N.CX P w) P w Z.K Z.mg base nm_need_house "need_house" (defScope st_need_house) f cdv A outer s H E).xe := passes_of (X := (cxOf (L2N.CX P w) P w Z.K Z.mg base nm_need_house "need_house" (defScope st_need_house) f cdv A outer s H E)) rfl
    (sb_one (ss_if (et_not (et_val (ev_er (er_call F_is_house hr tk (ea_d (ev_var 0) ea_nil)))))
      (sb_one (ss_raise (x_InvalidHouse) tk))
      sb_nil))⟩
noncomputable def m_need_house : FM := mDef 1 1 pk_need_house.1
theorem ok_need_house {P : Program} {w : World} {Z : Zx} {base : Heap} (A : FunAt Z "need_house" st_need_house ["house"]) (N : Nb Z.mg) (F_is_house : DefOk P w Z base "is_house" 3 ["value"] [] m_is_house) (x_InvalidHouse : ExcC Z.K Z.mg "InvalidHouse") : DefOk P w Z base "need_house" 4 ["house"] [] m_need_house := by
  obtain ⟨f, fd, h1, h2, h3⟩ := A
  exact defOk h1 sc_need_house h2 h3 fun cdv A outer s H E hr => pk_need_house.2 hr N F_is_house x_InvalidHouse
abbrev st_need_rule : Stmt := topS 19
abbrev nm_need_rule : List Str := ["house", "rule"]
theorem sc_need_rule : FnScope nm_need_rule ["house", "rule"] (defScope st_need_rule) := ⟨rfl, rfl, rfl, by decide +kernel, rfl, by decide +kernel, by decide +kernel⟩
noncomputable def pk_need_rule : { g : SM // ∀ {P : Program} {w : World} {Z : Zx} {base : Heap} {f : Addr} {cdv : Value} {A : Around} {outer : List Env} {s : Shared} {H : Hp} {E : XK} (hr : Room 3 (A.deeper (envOfC "need_rule" (defScope st_need_rule) s.heap.objs.size f cdv))) (N : Nb Z.mg) (F_is_rule_of : DefOk P w Z base "is_rule_of" 3 ["house", "value"] [] m_is_rule_of) (x_InvalidRule : ExcC Z.K Z.mg "InvalidRule"),
    SB (cxOf (L2N.CX P w) P w Z.K Z.mg base nm_need_rule "need_rule" (defScope st_need_rule) f cdv A outer s H E) Z [] (fun cls d _ H => E cls d H) (defBody st_need_rule) g } :=
  ⟨_, fun {P w Z base f cdv A outer s H E} hr N F_is_rule_of x_InvalidRule =>
    have nd := sc_need_rule.nd
    have tk : L2N.Takes (cxOf (L2N.CX P w) P w Z.K Z.mg base nm_need_rule "need_rule" (defScope st_need_rule) f cdv A outer s H E) (fun cls d _ H => E cls d H) := L2N.takes_of rfl rfl rfl rfl
    have po : PassesOwn (model P w) (cxOf (L2N.CX P w) P w Z.K Z.mg base nm_need_rule "need_rule" (defScope st_need_rule) f cdv A outer s H E).A (cxOf (L2N.CX P w) P w Z.K Z.mg base nm_need_rule "need_rule" (defScope st_need_rule) f cdv A outer s H E).env (cxOf (L2N.CX P w) P w Z.K Z.mg base nm_need_rule "need_rule" (defScope st_need_rule) f cdv A outer s H E).xe := passes_of (X := (cxOf (L2N.CX P w) P w Z.K Z.mg base nm_need_rule "need_rule" (defScope st_need_rule) f cdv A outer s H E)) rfl
    (sb_one (ss_if (et_not (et_val (ev_er (er_call F_is_rule_of hr tk (ea_d (ev_var 0) (ea_d (ev_var 1) ea_nil))))))
      (sb_one (ss_raise (x_InvalidRule) tk))
      sb_nil))⟩
noncomputable def m_need_rule : FM := mDef 2 2 pk_need_rule.1
theorem ok_need_rule {P : Program} {w : World} {Z : Zx} {base : Heap} (A : FunAt Z "need_rule" st_need_rule ["house", "rule"]) (N : Nb Z.mg) (F_is_rule_of : DefOk P w Z base "is_rule_of" 3 ["house", "value"] [] m_is_rule_of) (x_InvalidRule : ExcC Z.K Z.mg "InvalidRule") : DefOk P w Z base "need_rule" 4 ["house", "rule"] [] m_need_rule := by
  obtain ⟨f, fd, h1, h2, h3⟩ := A
  exact defOk h1 sc_need_rule h2 h3 fun cdv A outer s H E hr => pk_need_rule.2 hr N F_is_rule_of x_InvalidRule
abbrev st_line_of : Stmt := topS 22
abbrev nm_line_of : List Str := ["state", "place", "empty", "found"]
theorem sc_line_of : FnScope nm_line_of ["state"] (defScope st_line_of) := ⟨rfl, rfl, rfl, by decide +kernel, rfl, by decide +kernel, by decide +kernel⟩
noncomputable def pk_line_of : { g : SM // ∀ {P : Program} {w : World} {Z : Zx} {base : Heap} {f : Addr} {cdv : Value} {A : Around} {outer : List Env} {s : Shared} {H : Hp} {E : XK} (hr : Room 0 (A.deeper (envOfC "line_of" (defScope st_line_of) s.heap.objs.size f cdv))) (N : Nb Z.mg),
    SB (cxOf (L2N.CX P w) P w Z.K Z.mg base nm_line_of "line_of" (defScope st_line_of) f cdv A outer s H E) Z [] (fun cls d _ H => E cls d H) (defBody st_line_of) g } :=
  ⟨_, fun {P w Z base f cdv A outer s H E} hr N =>
    have nd := sc_line_of.nd
    have tk : L2N.Takes (cxOf (L2N.CX P w) P w Z.K Z.mg base nm_line_of "line_of" (defScope st_line_of) f cdv A outer s H E) (fun cls d _ H => E cls d H) := L2N.takes_of rfl rfl rfl rfl
    have po : PassesOwn (model P w) (cxOf (L2N.CX P w) P w Z.K Z.mg base nm_line_of "line_of" (defScope st_line_of) f cdv A outer s H E).A (cxOf (L2N.CX P w) P w Z.K Z.mg base nm_line_of "line_of" (defScope st_line_of) f cdv A outer s H E).env (cxOf (L2N.CX P w) P w Z.K Z.mg base nm_line_of "line_of" (defScope st_line_of) f cdv A outer s H E).xe := passes_of (X := (cxOf (L2N.CX P w) P w Z.K Z.mg base nm_line_of "line_of" (defScope st_line_of) f cdv A outer s H E)) rfl
    (sb_cons (ss_asg (ev_var 0) (gt_tup (n := 3) (gs_cons (gt_name 1 nd) (gs_cons (gt_name 2 nd) (gs_cons (gt_name 3 nd) gs_nil)))))
    (sb_cons (ss_if (et_cmp (c_eq hr.units) (ev_var 2) (ev_var 3))
      (sb_one (ss_ret (er_ev (ev_fstr (EJ.cons ev_str (EJ.cons (ev_fmt (ev_var 1)) (EJ.cons ev_str (EJ.cons (ev_fmt (ev_var 2)) EJ.nil))))))))
      sb_nil)
    (sb_one (ss_ret (er_ev (ev_fstr (EJ.cons ev_str (EJ.cons (ev_fmt (ev_var 1)) (EJ.cons ev_str (EJ.cons (ev_fmt (ev_var 2)) (EJ.cons ev_str (EJ.cons (ev_fmt (ev_var 3)) EJ.nil))))))))))))⟩
noncomputable def m_line_of : FM := mDef 4 1 pk_line_of.1
theorem ok_line_of {P : Program} {w : World} {Z : Zx} {base : Heap} (A : FunAt Z "line_of" st_line_of ["state"]) (N : Nb Z.mg) : DefOk P w Z base "line_of" 1 ["state"] [] m_line_of := by
  obtain ⟨f, fd, h1, h2, h3⟩ := A
  exact defOk h1 sc_line_of h2 h3 fun cdv A outer s H E hr => pk_line_of.2 hr N
abbrev st_text_of : Stmt := topS 23
abbrev nm_text_of : List Str := ["rule", "state"]
theorem sc_text_of : FnScope nm_text_of ["rule"] (defScope st_text_of) := ⟨rfl, rfl, rfl, by decide +kernel, rfl, by decide +kernel, by decide +kernel⟩
noncomputable def pk_text_of : { g : SM // ∀ {P : Program} {w : World} {Z : Zx} {base : Heap} {f : Addr} {cdv : Value} {A : Around} {outer : List Env} {s : Shared} {H : Hp} {E : XK} (hr : Room 1 (A.deeper (envOfC "text_of" (defScope st_text_of) s.heap.objs.size f cdv))) (N : Nb Z.mg) (F_line_of : DefOk P w Z base "line_of" 1 ["state"] [] m_line_of),
    SB (cxOf (L2N.CX P w) P w Z.K Z.mg base nm_text_of "text_of" (defScope st_text_of) f cdv A outer s H E) Z [] (fun cls d _ H => E cls d H) (defBody st_text_of) g } :=
  ⟨_, fun {P w Z base f cdv A outer s H E} hr N F_line_of =>
    have nd := sc_text_of.nd
    have tk : L2N.Takes (cxOf (L2N.CX P w) P w Z.K Z.mg base nm_text_of "text_of" (defScope st_text_of) f cdv A outer s H E) (fun cls d _ H => E cls d H) := L2N.takes_of rfl rfl rfl rfl
    have po : PassesOwn (model P w) (cxOf (L2N.CX P w) P w Z.K Z.mg base nm_text_of "text_of" (defScope st_text_of) f cdv A outer s H E).A (cxOf (L2N.CX P w) P w Z.K Z.mg base nm_text_of "text_of" (defScope st_text_of) f cdv A outer s H E).env (cxOf (L2N.CX P w) P w Z.K Z.mg base nm_text_of "text_of" (defScope st_text_of) f cdv A outer s H E).xe := passes_of (X := (cxOf (L2N.CX P w) P w Z.K Z.mg base nm_text_of "text_of" (defScope st_text_of) f cdv A outer s H E)) rfl
    (sb_one (ss_ret (er_ev (ev_join ev_str (ev_er (er_lc nd (ei_list (ev_var 0)) (blkOk_by (own := [("state", 1)]) (N := nm_text_of) (sc := defScope st_text_of) (by decide +kernel)) (fun _ _ _ _ _ => (gt_name 1 nd)) (fun _ _ _ _ _ => ets_nil) (fun _ _ _ _ _ => (ev_er (er_call F_line_of hr takesW0 (ea_d (ev_var 1) ea_nil))))))))))⟩
noncomputable def m_text_of : FM := mDef 2 1 pk_text_of.1
theorem ok_text_of {P : Program} {w : World} {Z : Zx} {base : Heap} (A : FunAt Z "text_of" st_text_of ["rule"]) (N : Nb Z.mg) (F_line_of : DefOk P w Z base "line_of" 1 ["state"] [] m_line_of) : DefOk P w Z base "text_of" 2 ["rule"] [] m_text_of := by
  obtain ⟨f, fd, h1, h2, h3⟩ := A
  exact defOk h1 sc_text_of h2 h3 fun cdv A outer s H E hr => pk_text_of.2 hr N F_line_of
abbrev st_figure : Stmt := topS 24
abbrev nm_figure : List Str := ["word"]
theorem sc_figure : FnScope nm_figure ["word"] (defScope st_figure) := ⟨rfl, rfl, rfl, by decide +kernel, rfl, by decide +kernel, by decide +kernel⟩
noncomputable def pk_figure : { g : SM // ∀ {P : Program} {w : World} {Z : Zx} {base : Heap} {f : Addr} {cdv : Value} {A : Around} {outer : List Env} {s : Shared} {H : Hp} {E : XK} (hr : Room 0 (A.deeper (envOfC "figure" (defScope st_figure) s.heap.objs.size f cdv))) (N : Nb Z.mg) (c_FIGURES : ∃ t, Z.mg "FIGURES" = some (.str "0123" t)),
    SB (cxOf (L2N.CX P w) P w Z.K Z.mg base nm_figure "figure" (defScope st_figure) f cdv A outer s H E) Z [] (fun cls d _ H => E cls d H) (defBody st_figure) g } :=
  ⟨_, fun {P w Z base f cdv A outer s H E} hr N c_FIGURES =>
    have nd := sc_figure.nd
    have tk : L2N.Takes (cxOf (L2N.CX P w) P w Z.K Z.mg base nm_figure "figure" (defScope st_figure) f cdv A outer s H E) (fun cls d _ H => E cls d H) := L2N.takes_of rfl rfl rfl rfl
    have po : PassesOwn (model P w) (cxOf (L2N.CX P w) P w Z.K Z.mg base nm_figure "figure" (defScope st_figure) f cdv A outer s H E).A (cxOf (L2N.CX P w) P w Z.K Z.mg base nm_figure "figure" (defScope st_figure) f cdv A outer s H E).env (cxOf (L2N.CX P w) P w Z.K Z.mg base nm_figure "figure" (defScope st_figure) f cdv A outer s H E).xe := passes_of (X := (cxOf (L2N.CX P w) P w Z.K Z.mg base nm_figure "figure" (defScope st_figure) f cdv A outer s H E)) rfl
    (sb_one (ss_ret (er_if (et_ew (ew_and (et_cmp (c_eq hr.units) (ev_callB f_len N.len boot_len (el_cons (ev_var 0) el_nil)) ev_int) (ew_and1 (et_cmp c_inS (ev_var 0) (ev_gStr rfl c_FIGURES))))) (er_ev (ev_indexS (ev_gStr rfl c_FIGURES) (ev_var 0))) (er_ev (ev_neg ev_int)))))⟩
noncomputable def m_figure : FM := mDef 1 1 pk_figure.1
theorem ok_figure {P : Program} {w : World} {Z : Zx} {base : Heap} (A : FunAt Z "figure" st_figure ["word"]) (N : Nb Z.mg) (c_FIGURES : ∃ t, Z.mg "FIGURES" = some (.str "0123" t)) : DefOk P w Z base "figure" 1 ["word"] [] m_figure := by
  obtain ⟨f, fd, h1, h2, h3⟩ := A
  exact defOk h1 sc_figure h2 h3 fun cdv A outer s H E hr => pk_figure.2 hr N c_FIGURES
abbrev st_state_in : Stmt := topS 25
abbrev nm_state_in : List Str := ["line", "words"]
theorem sc_state_in : FnScope nm_state_in ["line"] (defScope st_state_in) := ⟨rfl, rfl, rfl, by decide +kernel, rfl, by decide +kernel, by decide +kernel⟩
noncomputable def pk_state_in : { g : SM // ∀ {P : Program} {w : World} {Z : Zx} {base : Heap} {f : Addr} {cdv : Value} {A : Around} {outer : List Env} {s : Shared} {H : Hp} {E : XK} (hr : Room 1 (A.deeper (envOfC "state_in" (defScope st_state_in) s.heap.objs.size f cdv))) (N : Nb Z.mg) (F_figure : DefOk P w Z base "figure" 1 ["word"] [] m_figure),
    SB (cxOf (L2N.CX P w) P w Z.K Z.mg base nm_state_in "state_in" (defScope st_state_in) f cdv A outer s H E) Z [] (fun cls d _ H => E cls d H) (defBody st_state_in) g } :=
  ⟨_, fun {P w Z base f cdv A outer s H E} hr N F_figure =>
    have nd := sc_state_in.nd
    have tk : L2N.Takes (cxOf (L2N.CX P w) P w Z.K Z.mg base nm_state_in "state_in" (defScope st_state_in) f cdv A outer s H E) (fun cls d _ H => E cls d H) := L2N.takes_of rfl rfl rfl rfl
    have po : PassesOwn (model P w) (cxOf (L2N.CX P w) P w Z.K Z.mg base nm_state_in "state_in" (defScope st_state_in) f cdv A outer s H E).A (cxOf (L2N.CX P w) P w Z.K Z.mg base nm_state_in "state_in" (defScope st_state_in) f cdv A outer s H E).env (cxOf (L2N.CX P w) P w Z.K Z.mg base nm_state_in "state_in" (defScope st_state_in) f cdv A outer s H E).xe := passes_of (X := (cxOf (L2N.CX P w) P w Z.K Z.mg base nm_state_in "state_in" (defScope st_state_in) f cdv A outer s H E)) rfl
    (sb_cons (ss_set 1 (er_split (ev_var 0) ev_str) nd)
    (sb_cons (ss_if (et_cmp (c_eq hr.units) (ev_callB f_len N.len boot_len (el_cons (ev_var 1) el_nil)) ev_int)
      (sb_one (ss_ret (er_ev (ev_tup (el_cons (ev_er (er_call F_figure hr tk (ea_d (ev_ix (ev_var 1) ev_int) ea_nil))) (el_cons (ev_er (er_call F_figure hr tk (ea_d (ev_ix (ev_var 1) ev_int) ea_nil))) (el_cons (ev_er (er_call F_figure hr tk (ea_d (ev_ix (ev_var 1) ev_int) ea_nil))) el_nil)))))))
      sb_nil)
    (sb_one (ss_ret (er_if (et_cmp (c_eq hr.units) (ev_callB f_len N.len boot_len (el_cons (ev_var 1) el_nil)) ev_int) (er_ev (ev_tup (el_cons (ev_er (er_call F_figure hr tk (ea_d (ev_ix (ev_var 1) ev_int) ea_nil))) (el_cons (ev_er (er_call F_figure hr tk (ea_d (ev_ix (ev_var 1) ev_int) ea_nil))) (el_cons (ev_er (er_call F_figure hr tk (ea_d (ev_ix (ev_var 1) ev_int) ea_nil))) el_nil))))) (er_ev ev_non))))))⟩
noncomputable def m_state_in : FM := mDef 2 1 pk_state_in.1
theorem ok_state_in {P : Program} {w : World} {Z : Zx} {base : Heap} (A : FunAt Z "state_in" st_state_in ["line"]) (N : Nb Z.mg) (F_figure : DefOk P w Z base "figure" 1 ["word"] [] m_figure) : DefOk P w Z base "state_in" 2 ["line"] [] m_state_in := by
  obtain ⟨f, fd, h1, h2, h3⟩ := A
  exact defOk h1 sc_state_in h2 h3 fun cdv A outer s H E hr => pk_state_in.2 hr N F_figure
abbrev st_rule_text : Stmt := topS 26
abbrev nm_rule_text : List Str := ["house", "rule"]
theorem sc_rule_text : FnScope nm_rule_text ["house", "rule"] (defScope st_rule_text) := ⟨rfl, rfl, rfl, by decide +kernel, rfl, by decide +kernel, by decide +kernel⟩
noncomputable def pk_rule_text : { g : SM // ∀ {P : Program} {w : World} {Z : Zx} {base : Heap} {f : Addr} {cdv : Value} {A : Around} {outer : List Env} {s : Shared} {H : Hp} {E : XK} (hr : Room 4 (A.deeper (envOfC "rule_text" (defScope st_rule_text) s.heap.objs.size f cdv))) (N : Nb Z.mg) (F_need_house : DefOk P w Z base "need_house" 4 ["house"] [] m_need_house) (F_need_rule : DefOk P w Z base "need_rule" 4 ["house", "rule"] [] m_need_rule) (F_text_of : DefOk P w Z base "text_of" 2 ["rule"] [] m_text_of),
    SB (cxOf (L2N.CX P w) P w Z.K Z.mg base nm_rule_text "rule_text" (defScope st_rule_text) f cdv A outer s H E) Z [] (fun cls d _ H => E cls d H) (defBody st_rule_text) g } :=
  ⟨_, fun {P w Z base f cdv A outer s H E} hr N F_need_house F_need_rule F_text_of =>
    have nd := sc_rule_text.nd
    have tk : L2N.Takes (cxOf (L2N.CX P w) P w Z.K Z.mg base nm_rule_text "rule_text" (defScope st_rule_text) f cdv A outer s H E) (fun cls d _ H => E cls d H) := L2N.takes_of rfl rfl rfl rfl
    have po : PassesOwn (model P w) (cxOf (L2N.CX P w) P w Z.K Z.mg base nm_rule_text "rule_text" (defScope st_rule_text) f cdv A outer s H E).A (cxOf (L2N.CX P w) P w Z.K Z.mg base nm_rule_text "rule_text" (defScope st_rule_text) f cdv A outer s H E).env (cxOf (L2N.CX P w) P w Z.K Z.mg base nm_rule_text "rule_text" (defScope st_rule_text) f cdv A outer s H E).xe := passes_of (X := (cxOf (L2N.CX P w) P w Z.K Z.mg base nm_rule_text "rule_text" (defScope st_rule_text) f cdv A outer s H E)) rfl
    (sb_cons (ss_expr (er_call F_need_house hr tk (ea_d (ev_var 0) ea_nil)))
    (sb_cons (ss_expr (er_call F_need_rule hr tk (ea_d (ev_var 0) (ea_d (ev_var 1) ea_nil))))
    (sb_one (ss_ret (er_call F_text_of hr tk (ea_d (ev_var 1) ea_nil))))))⟩
noncomputable def m_rule_text : FM := mDef 2 2 pk_rule_text.1
theorem ok_rule_text {P : Program} {w : World} {Z : Zx} {base : Heap} (A : FunAt Z "rule_text" st_rule_text ["house", "rule"]) (N : Nb Z.mg) (F_need_house : DefOk P w Z base "need_house" 4 ["house"] [] m_need_house) (F_need_rule : DefOk P w Z base "need_rule" 4 ["house", "rule"] [] m_need_rule) (F_text_of : DefOk P w Z base "text_of" 2 ["rule"] [] m_text_of) : DefOk P w Z base "rule_text" 5 ["house", "rule"] [] m_rule_text := by
  obtain ⟨f, fd, h1, h2, h3⟩ := A
  exact defOk h1 sc_rule_text h2 h3 fun cdv A outer s H E hr => pk_rule_text.2 hr N F_need_house F_need_rule F_text_of
abbrev st_read_rule : Stmt := topS 27
abbrev nm_read_rule : List Str := ["house", "text", "rule", "line"]
theorem sc_read_rule : FnScope nm_read_rule ["house", "text"] (defScope st_read_rule) := ⟨rfl, rfl, rfl, by decide +kernel, rfl, by decide +kernel, by decide +kernel⟩
noncomputable def pk_read_rule : { g : SM // ∀ {P : Program} {w : World} {Z : Zx} {base : Heap} {f : Addr} {cdv : Value} {A : Around} {outer : List Env} {s : Shared} {H : Hp} {E : XK} (hr : Room 4 (A.deeper (envOfC "read_rule" (defScope st_read_rule) s.heap.objs.size f cdv))) (N : Nb Z.mg) (F_is_rule_of : DefOk P w Z base "is_rule_of" 3 ["house", "value"] [] m_is_rule_of) (F_need_house : DefOk P w Z base "need_house" 4 ["house"] [] m_need_house) (F_text_of : DefOk P w Z base "text_of" 2 ["rule"] [] m_text_of) (F_state_in : DefOk P w Z base "state_in" 2 ["line"] [] m_state_in) (x_NoText : ExcC Z.K Z.mg "NoText"),
    SB (cxOf (L2N.CX P w) P w Z.K Z.mg base nm_read_rule "read_rule" (defScope st_read_rule) f cdv A outer s H E) Z [] (fun cls d _ H => E cls d H) (defBody st_read_rule) g } :=
  ⟨_, fun {P w Z base f cdv A outer s H E} hr N F_is_rule_of F_need_house F_text_of F_state_in x_NoText =>
    have nd := sc_read_rule.nd
    have tk : L2N.Takes (cxOf (L2N.CX P w) P w Z.K Z.mg base nm_read_rule "read_rule" (defScope st_read_rule) f cdv A outer s H E) (fun cls d _ H => E cls d H) := L2N.takes_of rfl rfl rfl rfl
    have po : PassesOwn (model P w) (cxOf (L2N.CX P w) P w Z.K Z.mg base nm_read_rule "read_rule" (defScope st_read_rule) f cdv A outer s H E).A (cxOf (L2N.CX P w) P w Z.K Z.mg base nm_read_rule "read_rule" (defScope st_read_rule) f cdv A outer s H E).env (cxOf (L2N.CX P w) P w Z.K Z.mg base nm_read_rule "read_rule" (defScope st_read_rule) f cdv A outer s H E).xe := passes_of (X := (cxOf (L2N.CX P w) P w Z.K Z.mg base nm_read_rule "read_rule" (defScope st_read_rule) f cdv A outer s H E)) rfl
    (sb_cons (ss_expr (er_call F_need_house hr tk (ea_d (ev_var 0) ea_nil)))
    (sb_cons (ss_if (et_not (et_val (ev_isi N.isinstance N.str bt_str (ev_var 1))))
      (sb_one (ss_raise (x_NoText) tk))
      sb_nil)
    (sb_cons (ss_set 2 (er_ev (ev_callT f_tuple N.tuple bt_tuple (el_cons (ev_er (er_lc nd (ei_list (ev_er (er_split (ev_var 1) ev_str))) (blkOk_by (own := [("line", 3)]) (N := nm_read_rule) (sc := defScope st_read_rule) (by decide +kernel)) (fun _ _ _ _ _ => (gt_name 3 nd)) (fun _ _ _ _ _ => ets_nil) (fun _ _ _ _ _ => (ev_er (er_call F_state_in hr takesW0 (ea_d (ev_var 3) ea_nil)))))) el_nil))) nd)
    (sb_cons (ss_if (et_ew (ew_or (et_not (et_val (ev_er (er_call F_is_rule_of hr tk (ea_d (ev_var 0) (ea_d (ev_var 2) ea_nil)))))) (ew_or1 (et_cmp (c_ne hr.units) (ev_er (er_call F_text_of hr tk (ea_d (ev_var 2) ea_nil))) (ev_var 1)))))
      (sb_one (ss_raise (x_NoText) tk))
      sb_nil)
    (sb_one (ss_ret (er_ev (ev_var 2))))))))⟩
noncomputable def m_read_rule : FM := mDef 4 2 pk_read_rule.1
theorem ok_read_rule {P : Program} {w : World} {Z : Zx} {base : Heap} (A : FunAt Z "read_rule" st_read_rule ["house", "text"]) (N : Nb Z.mg) (F_is_rule_of : DefOk P w Z base "is_rule_of" 3 ["house", "value"] [] m_is_rule_of) (F_need_house : DefOk P w Z base "need_house" 4 ["house"] [] m_need_house) (F_text_of : DefOk P w Z base "text_of" 2 ["rule"] [] m_text_of) (F_state_in : DefOk P w Z base "state_in" 2 ["line"] [] m_state_in) (x_NoText : ExcC Z.K Z.mg "NoText") : DefOk P w Z base "read_rule" 5 ["house", "text"] [] m_read_rule := by
  obtain ⟨f, fd, h1, h2, h3⟩ := A
  exact defOk h1 sc_read_rule h2 h3 fun cdv A outer s H E hr => pk_read_rule.2 hr N F_is_rule_of F_need_house F_text_of F_state_in x_NoText
abbrev st__law_urn : Stmt := topS 29
abbrev nm__law_urn : List Str := ["script", "k", "cell"]
theorem sc__law_urn : FnScope nm__law_urn ["script", "k"] (defScope st__law_urn) := ⟨rfl, rfl, rfl, by decide +kernel, rfl, by decide +kernel, by decide +kernel⟩
noncomputable def pk__law_urn : { g : SM // ∀ {P : Program} {w : World} {Z : Zx} {base : Heap} {f : Addr} {cdv : Value} {A : Around} {outer : List Env} {s : Shared} {H : Hp} {E : XK} (hr : Room 0 (A.deeper (envOfC "_law_urn" (defScope st__law_urn) s.heap.objs.size f cdv))) (N : Nb Z.mg),
    SB (cxOf (L2N.CX P w) P w Z.K Z.mg base nm__law_urn "_law_urn" (defScope st__law_urn) f cdv A outer s H E) Z [] (fun cls d _ H => E cls d H) (defBody st__law_urn) g } :=
  ⟨_, fun {P w Z base f cdv A outer s H E} hr N =>
    have nd := sc__law_urn.nd
    have tk : L2N.Takes (cxOf (L2N.CX P w) P w Z.K Z.mg base nm__law_urn "_law_urn" (defScope st__law_urn) f cdv A outer s H E) (fun cls d _ H => E cls d H) := L2N.takes_of rfl rfl rfl rfl
    have po : PassesOwn (model P w) (cxOf (L2N.CX P w) P w Z.K Z.mg base nm__law_urn "_law_urn" (defScope st__law_urn) f cdv A outer s H E).A (cxOf (L2N.CX P w) P w Z.K Z.mg base nm__law_urn "_law_urn" (defScope st__law_urn) f cdv A outer s H E).env (cxOf (L2N.CX P w) P w Z.K Z.mg base nm__law_urn "_law_urn" (defScope st__law_urn) f cdv A outer s H E).xe := passes_of (X := (cxOf (L2N.CX P w) P w Z.K Z.mg base nm__law_urn "_law_urn" (defScope st__law_urn) f cdv A outer s H E)) rfl
    (sb_cons (ss_set 2 (er_ev (ev_bin b_add (ev_bin b_mul ev_int (ev_var 1)) ev_int)) nd)
    (sb_cons (ss_if (et_cmp c_lt (ev_var 1) (ev_callB f_len N.len boot_len (el_cons (ev_var 0) el_nil)))
      (sb_one (ss_set 2 (er_ev (ev_bin b_mod (ev_callB f_abs N.abs bt_abs (el_cons (ev_callT f_int N.int bt_int (el_cons (ev_ix (ev_var 0) (ev_var 1)) el_nil)) el_nil)) (ev_bin b_mul (ev_bin b_mul (ev_bin b_mul (ev_bin b_pow ev_int ev_int) (ev_bin b_pow ev_int ev_int)) (ev_bin b_pow ev_int ev_int)) (ev_bin b_pow ev_int ev_int)))) nd))
      (sb_one (ss_if (et_cmp c_gt (ev_callB f_len N.len boot_len (el_cons (ev_var 0) el_nil)) ev_int)
        (sb_one (ss_set 2 (er_ev (ev_bin b_add (ev_var 2) (ev_bin b_mod (ev_callB f_abs N.abs bt_abs (el_cons (ev_callT f_int N.int bt_int (el_cons (ev_ix (ev_var 0) (ev_neg ev_int)) el_nil)) el_nil)) ev_int))) nd))
        sb_nil)))
    (sb_one (ss_ret (er_lst (el_cons (ev_if (et_cmp c_ge (ev_var 2) (ev_bin b_pow ev_int ev_int)) (ev_var 2) ev_int) (el_cons (ev_bin b_add (ev_bin b_mod (ev_callT f_int N.int bt_int (el_cons (ev_bin b_add (ev_bin b_add (ev_bin b_mul (ev_bin b_mod (ev_var 2) ev_int) ev_int) (ev_bin b_mul ev_int (ev_var 1))) ev_int) el_nil)) ev_int) ev_int) el_nil)))))))⟩
noncomputable def m__law_urn : FM := mDef 3 2 pk__law_urn.1
theorem ok__law_urn {P : Program} {w : World} {Z : Zx} {base : Heap} (A : FunAt Z "_law_urn" st__law_urn ["script", "k"]) (N : Nb Z.mg) : DefOk P w Z base "_law_urn" 1 ["script", "k"] [] m__law_urn := by
  obtain ⟨f, fd, h1, h2, h3⟩ := A
  exact defOk h1 sc__law_urn h2 h3 fun cdv A outer s H E hr => pk__law_urn.2 hr N
abbrev st__law_draws : Stmt := topS 30
abbrev nm__law_draws : List Str := ["urn", "many", "found", "wide"]
theorem sc__law_draws : FnScope nm__law_draws ["urn", "many"] (defScope st__law_draws) := ⟨rfl, rfl, rfl, by decide +kernel, rfl, by decide +kernel, by decide +kernel⟩
noncomputable def pk__law_draws : { g : SM // ∀ {P : Program} {w : World} {Z : Zx} {base : Heap} {f : Addr} {cdv : Value} {A : Around} {outer : List Env} {s : Shared} {H : Hp} {E : XK} (hr : Room 0 (A.deeper (envOfC "_law_draws" (defScope st__law_draws) s.heap.objs.size f cdv))) (N : Nb Z.mg),
    SB (cxOf (L2N.CX P w) P w Z.K Z.mg base nm__law_draws "_law_draws" (defScope st__law_draws) f cdv A outer s H E) Z [0] (fun cls d _ H => E cls d H) (defBody st__law_draws) g } :=
  ⟨_, fun {P w Z base f cdv A outer s H E} hr N =>
    have nd := sc__law_draws.nd
    have tk : L2N.Takes (cxOf (L2N.CX P w) P w Z.K Z.mg base nm__law_draws "_law_draws" (defScope st__law_draws) f cdv A outer s H E) (fun cls d _ H => E cls d H) := L2N.takes_of rfl rfl rfl rfl
    have po : PassesOwn (model P w) (cxOf (L2N.CX P w) P w Z.K Z.mg base nm__law_draws "_law_draws" (defScope st__law_draws) f cdv A outer s H E).A (cxOf (L2N.CX P w) P w Z.K Z.mg base nm__law_draws "_law_draws" (defScope st__law_draws) f cdv A outer s H E).env (cxOf (L2N.CX P w) P w Z.K Z.mg base nm__law_draws "_law_draws" (defScope st__law_draws) f cdv A outer s H E).xe := passes_of (X := (cxOf (L2N.CX P w) P w Z.K Z.mg base nm__law_draws "_law_draws" (defScope st__law_draws) f cdv A outer s H E)) rfl
    (sb_cons (ss_if (et_cmp c_gt (ev_ixS 0 ev_int) ev_int)
      (sb_cons (ss_set 2 (er_ev (ev_bin b_mod (ev_callT f_int N.int bt_int (el_cons (ev_ixS 0 ev_int) el_nil)) (ev_var 1))) nd)
      (sb_cons (ss_put 0 (ev_bin b_div (ev_ixS 0 ev_int) (ev_var 1)) ev_int)
      (sb_one (ss_ret (er_ev (ev_var 2))))))
      sb_nil)
    (sb_cons (ss_asg (ev_tup (el_cons ev_int (el_cons ev_int el_nil))) (gt_tup (n := 2) (gs_cons (gt_name 2 nd) (gs_cons (gt_name 3 nd) gs_nil))))
    (sb_cons (ss_while po (et_ew (ew_or (et_cmp c_lt (ev_var 3) (ev_var 1)) (ew_or1 (et_cmp (c_eq hr.units) (ev_var 3) ev_int))))
      (sb_cons (ss_put 0 (ev_bin b_mod (ev_callT f_int N.int bt_int (el_cons (ev_bin b_add (ev_bin b_mul (ev_ixS 0 ev_int) ev_int) ev_int) el_nil)) ev_int) ev_int)
      (sb_cons (ss_set 2 (er_ev (ev_bin b_add (ev_bin b_mul (ev_var 2) ev_int) (ev_bin b_mod (ev_callT f_int N.int bt_int (el_cons (ev_bin b_div (ev_ixS 0 ev_int) ev_int) el_nil)) ev_int))) nd)
      (sb_one (ss_set 3 (er_ev (ev_bin b_mul (ev_var 3) ev_int)) nd)))))
    (sb_one (ss_ret (er_ev (ev_bin b_mod (ev_callT f_int N.int bt_int (el_cons (ev_var 2) el_nil)) (ev_var 1))))))))⟩
noncomputable def m__law_draws : FM := mDef 4 2 pk__law_draws.1
theorem ok__law_draws {P : Program} {w : World} {Z : Zx} {base : Heap} (A : FunAt Z "_law_draws" st__law_draws ["urn", "many"]) (N : Nb Z.mg) : DefOk P w Z base "_law_draws" 1 ["urn", "many"] [0] m__law_draws := by
  obtain ⟨f, fd, h1, h2, h3⟩ := A
  exact defOk h1 sc__law_draws h2 h3 fun cdv A outer s H E hr => pk__law_draws.2 hr N
abbrev st__law_house : Stmt := topS 31
abbrev nm__law_house : List Str := ["urn", "three", "prices", "place"]
theorem sc__law_house : FnScope nm__law_house ["urn", "three"] (defScope st__law_house) := ⟨rfl, rfl, rfl, by decide +kernel, rfl, by decide +kernel, by decide +kernel⟩
noncomputable def pk__law_house : { g : SM // ∀ {P : Program} {w : World} {Z : Zx} {base : Heap} {f : Addr} {cdv : Value} {A : Around} {outer : List Env} {s : Shared} {H : Hp} {E : XK} (hr : Room 1 (A.deeper (envOfC "_law_house" (defScope st__law_house) s.heap.objs.size f cdv))) (N : Nb Z.mg) (F__law_draws : DefOk P w Z base "_law_draws" 1 ["urn", "many"] [0] m__law_draws),
    SB (cxOf (L2N.CX P w) P w Z.K Z.mg base nm__law_house "_law_house" (defScope st__law_house) f cdv A outer s H E) Z [0] (fun cls d _ H => E cls d H) (defBody st__law_house) g } :=
  ⟨_, fun {P w Z base f cdv A outer s H E} hr N F__law_draws =>
    have nd := sc__law_house.nd
    have tk : L2N.Takes (cxOf (L2N.CX P w) P w Z.K Z.mg base nm__law_house "_law_house" (defScope st__law_house) f cdv A outer s H E) (fun cls d _ H => E cls d H) := L2N.takes_of rfl rfl rfl rfl
    have po : PassesOwn (model P w) (cxOf (L2N.CX P w) P w Z.K Z.mg base nm__law_house "_law_house" (defScope st__law_house) f cdv A outer s H E).A (cxOf (L2N.CX P w) P w Z.K Z.mg base nm__law_house "_law_house" (defScope st__law_house) f cdv A outer s H E).env (cxOf (L2N.CX P w) P w Z.K Z.mg base nm__law_house "_law_house" (defScope st__law_house) f cdv A outer s H E).xe := passes_of (X := (cxOf (L2N.CX P w) P w Z.K Z.mg base nm__law_house "_law_house" (defScope st__law_house) f cdv A outer s H E)) rfl
    (sb_cons (ss_if (et_ew (ew_and (et_val (ev_var 1)) (ew_and1 (et_cmp (c_eq hr.units) (ev_er (er_call F__law_draws hr tk (ea_s 0 (ea_d ev_int ea_nil)))) ev_int))))
      (sb_cons (ss_set 2 (er_ev (ev_callT f_tuple N.tuple bt_tuple (el_cons (ev_er (er_lc nd (ei_range1 N.range (el_cons ev_int el_nil)) (blkOk_by (own := [("place", 3)]) (N := nm__law_house) (sc := defScope st__law_house) (by decide +kernel)) (fun _ _ _ _ _ => (gt_name 3 nd)) (fun _ _ _ _ _ => ets_nil) (fun _ _ _ _ _ => (ev_bin b_add ev_int (ev_er (er_call F__law_draws hr takesW0 (ea_s 0 (ea_d ev_int ea_nil)))))))) el_nil))) nd)
      (sb_one (ss_ret (er_ev (ev_tup (el_cons (ev_var 2) (el_cons (ev_tup (el_cons ev_int (el_cons ev_int (el_cons ev_int el_nil)))) (el_cons (ev_bin b_add ev_int (ev_er (er_call F__law_draws hr tk (ea_s 0 (ea_d ev_int ea_nil))))) el_nil))))))))
      sb_nil)
    (sb_cons (ss_set 2 (er_ev (ev_callT f_tuple N.tuple bt_tuple (el_cons (ev_er (er_lc nd (ei_range1 N.range (el_cons ev_int el_nil)) (blkOk_by (own := [("place", 3)]) (N := nm__law_house) (sc := defScope st__law_house) (by decide +kernel)) (fun _ _ _ _ _ => (gt_name 3 nd)) (fun _ _ _ _ _ => ets_nil) (fun _ _ _ _ _ => (ev_bin b_add ev_int (ev_er (er_call F__law_draws hr takesW0 (ea_s 0 (ea_d ev_int ea_nil)))))))) el_nil))) nd)
    (sb_one (ss_ret (er_ev (ev_tup (el_cons (ev_var 2) (el_cons (ev_tup (el_cons (ev_bin b_add ev_int (ev_er (er_call F__law_draws hr tk (ea_s 0 (ea_d ev_int ea_nil))))) el_nil)) (el_cons (ev_bin b_add ev_int (ev_er (er_call F__law_draws hr tk (ea_s 0 (ea_d ev_int ea_nil))))) el_nil)))))))))⟩
noncomputable def m__law_house : FM := mDef 4 2 pk__law_house.1
theorem ok__law_house {P : Program} {w : World} {Z : Zx} {base : Heap} (A : FunAt Z "_law_house" st__law_house ["urn", "three"]) (N : Nb Z.mg) (F__law_draws : DefOk P w Z base "_law_draws" 1 ["urn", "many"] [0] m__law_draws) : DefOk P w Z base "_law_house" 2 ["urn", "three"] [0] m__law_house := by
  obtain ⟨f, fd, h1, h2, h3⟩ := A
  exact defOk h1 sc__law_house h2 h3 fun cdv A outer s H E hr => pk__law_house.2 hr N F__law_draws
abbrev st__law_fits : Stmt := topS 32
abbrev nm__law_fits : List Str := ["house", "many", "places", "wide", "waits_so", "place"]
theorem sc__law_fits : FnScope nm__law_fits ["house", "many"] (defScope st__law_fits) := ⟨rfl, rfl, rfl, by decide +kernel, rfl, by decide +kernel, by decide +kernel⟩
noncomputable def pk__law_fits : { g : SM // ∀ {P : Program} {w : World} {Z : Zx} {base : Heap} {f : Addr} {cdv : Value} {A : Around} {outer : List Env} {s : Shared} {H : Hp} {E : XK} (hr : Room 0 (A.deeper (envOfC "_law_fits" (defScope st__law_fits) s.heap.objs.size f cdv))) (N : Nb Z.mg),
    SB (cxOf (L2N.CX P w) P w Z.K Z.mg base nm__law_fits "_law_fits" (defScope st__law_fits) f cdv A outer s H E) Z [] (fun cls d _ H => E cls d H) (defBody st__law_fits) g } :=
  ⟨_, fun {P w Z base f cdv A outer s H E} hr N =>
    have nd := sc__law_fits.nd
    have tk : L2N.Takes (cxOf (L2N.CX P w) P w Z.K Z.mg base nm__law_fits "_law_fits" (defScope st__law_fits) f cdv A outer s H E) (fun cls d _ H => E cls d H) := L2N.takes_of rfl rfl rfl rfl
    have po : PassesOwn (model P w) (cxOf (L2N.CX P w) P w Z.K Z.mg base nm__law_fits "_law_fits" (defScope st__law_fits) f cdv A outer s H E).A (cxOf (L2N.CX P w) P w Z.K Z.mg base nm__law_fits "_law_fits" (defScope st__law_fits) f cdv A outer s H E).env (cxOf (L2N.CX P w) P w Z.K Z.mg base nm__law_fits "_law_fits" (defScope st__law_fits) f cdv A outer s H E).xe := passes_of (X := (cxOf (L2N.CX P w) P w Z.K Z.mg base nm__law_fits "_law_fits" (defScope st__law_fits) f cdv A outer s H E)) rfl
    (sb_cons (ss_par 2 3 (el_cons (ev_callB f_len N.len boot_len (el_cons (ev_ix (ev_var 0) ev_int) el_nil)) (el_cons (ev_callB (f_maxS hr.units) N.max bt_max (el_cons (ev_er (er_callT f_list N.list bt_list (el_cons (ev_ix (ev_var 0) ev_int) el_nil))) el_nil)) el_nil)) nd)
    (sb_cons (ss_set 4 (er_ev ev_int) nd)
    (sb_cons (ss_for po (ei_range1 N.range (el_cons (ev_var 2) el_nil)) (gt_name 5 nd)
      (sb_one (ss_set 4 (er_ev (ev_bin b_mul (ev_var 4) ev_int)) nd)))
    (sb_one (ss_ret (er_ev (ev_cmp c_le (ev_bin b_mul (ev_bin b_mul (ev_bin b_mul (ev_bin b_mul (ev_bin b_mul (ev_var 2) (ev_var 3)) (ev_var 3)) (ev_var 4)) (ev_ix (ev_var 0) ev_int)) (ev_var 1)) ev_int)))))))⟩
noncomputable def m__law_fits : FM := mDef 6 2 pk__law_fits.1
theorem ok__law_fits {P : Program} {w : World} {Z : Zx} {base : Heap} (A : FunAt Z "_law_fits" st__law_fits ["house", "many"]) (N : Nb Z.mg) : DefOk P w Z base "_law_fits" 1 ["house", "many"] [] m__law_fits := by
  obtain ⟨f, fd, h1, h2, h3⟩ := A
  exact defOk h1 sc__law_fits h2 h3 fun cdv A outer s H E hr => pk__law_fits.2 hr N
abbrev st__law_rule : Stmt := topS 33
abbrev nm__law_rule : List Str := ["urn", "house", "most", "many", "rows", "k", "place"]
theorem sc__law_rule : FnScope nm__law_rule ["urn", "house", "most"] (defScope st__law_rule) := ⟨rfl, rfl, rfl, by decide +kernel, rfl, by decide +kernel, by decide +kernel⟩
noncomputable def pk__law_rule : { g : SM // ∀ {P : Program} {w : World} {Z : Zx} {base : Heap} {f : Addr} {cdv : Value} {A : Around} {outer : List Env} {s : Shared} {H : Hp} {E : XK} (hr : Room 1 (A.deeper (envOfC "_law_rule" (defScope st__law_rule) s.heap.objs.size f cdv))) (N : Nb Z.mg) (F__law_draws : DefOk P w Z base "_law_draws" 1 ["urn", "many"] [0] m__law_draws) (F__law_fits : DefOk P w Z base "_law_fits" 1 ["house", "many"] [] m__law_fits),
    SB (cxOf (L2N.CX P w) P w Z.K Z.mg base nm__law_rule "_law_rule" (defScope st__law_rule) f cdv A outer s H E) Z [0] (fun cls d _ H => E cls d H) (defBody st__law_rule) g } :=
  ⟨_, fun {P w Z base f cdv A outer s H E} hr N F__law_draws F__law_fits =>
    have nd := sc__law_rule.nd
    have tk : L2N.Takes (cxOf (L2N.CX P w) P w Z.K Z.mg base nm__law_rule "_law_rule" (defScope st__law_rule) f cdv A outer s H E) (fun cls d _ H => E cls d H) := L2N.takes_of rfl rfl rfl rfl
    have po : PassesOwn (model P w) (cxOf (L2N.CX P w) P w Z.K Z.mg base nm__law_rule "_law_rule" (defScope st__law_rule) f cdv A outer s H E).A (cxOf (L2N.CX P w) P w Z.K Z.mg base nm__law_rule "_law_rule" (defScope st__law_rule) f cdv A outer s H E).env (cxOf (L2N.CX P w) P w Z.K Z.mg base nm__law_rule "_law_rule" (defScope st__law_rule) f cdv A outer s H E).xe := passes_of (X := (cxOf (L2N.CX P w) P w Z.K Z.mg base nm__law_rule "_law_rule" (defScope st__law_rule) f cdv A outer s H E)) rfl
    (sb_cons (ss_set 3 (er_ev (ev_bin b_add ev_int (ev_er (er_call F__law_draws hr tk (ea_s 0 (ea_d (ev_var 2) ea_nil)))))) nd)
    (sb_cons (ss_while po (et_not (et_val (ev_er (er_call F__law_fits hr tk (ea_d (ev_var 1) (ea_d (ev_var 3) ea_nil))))))
      (sb_one (ss_set 3 (er_ev (ev_bin b_sub (ev_var 3) ev_int)) nd)))
    (sb_cons (ss_set 4 (er_lst el_nil) nd)
    (sb_cons (ss_for po (ei_range1 N.range (el_cons (ev_var 3) el_nil)) (gt_name 5 nd)
      (sb_cons (ss_set 6 (er_call F__law_draws hr tk (ea_s 0 (ea_d (ev_callB f_len N.len boot_len (el_cons (ev_ix (ev_var 1) ev_int) el_nil)) ea_nil))) nd)
      (sb_one (ss_if (et_cmp (c_eq hr.units) (ev_er (er_call F__law_draws hr tk (ea_s 0 (ea_d ev_int ea_nil)))) ev_int)
        (sb_one (ss_app 4 (ev_tup (el_cons (ev_var 6) (el_cons (ev_bin b_mod (ev_bin b_add (ev_var 5) ev_int) (ev_var 3)) (el_cons (ev_bin b_mod (ev_bin b_add (ev_var 5) ev_int) (ev_var 3)) el_nil))))))
        (sb_one (ss_app 4 (ev_tup (el_cons (ev_var 6) (el_cons (ev_er (er_call F__law_draws hr tk (ea_s 0 (ea_d (ev_var 3) ea_nil)))) (el_cons (ev_er (er_call F__law_draws hr tk (ea_s 0 (ea_d (ev_var 3) ea_nil)))) el_nil))))))))))
    (sb_one (ss_ret (er_ev (ev_callT f_tuple N.tuple bt_tuple (el_cons (ev_var 4) el_nil)))))))))⟩
noncomputable def m__law_rule : FM := mDef 7 3 pk__law_rule.1
theorem ok__law_rule {P : Program} {w : World} {Z : Zx} {base : Heap} (A : FunAt Z "_law_rule" st__law_rule ["urn", "house", "most"]) (N : Nb Z.mg) (F__law_draws : DefOk P w Z base "_law_draws" 1 ["urn", "many"] [0] m__law_draws) (F__law_fits : DefOk P w Z base "_law_fits" 1 ["house", "many"] [] m__law_fits) : DefOk P w Z base "_law_rule" 2 ["urn", "house", "most"] [0] m__law_rule := by
  obtain ⟨f, fd, h1, h2, h3⟩ := A
  exact defOk h1 sc__law_rule h2 h3 fun cdv A outer s H E hr => pk__law_rule.2 hr N F__law_draws F__law_fits
abbrev st__law_close : Stmt := topS 34
abbrev nm__law_close : List Str := ["urn", "house", "rule", "k", "turned", "place", "empty", "found"]
theorem sc__law_close : FnScope nm__law_close ["urn", "house", "rule"] (defScope st__law_close) := ⟨rfl, rfl, rfl, by decide +kernel, rfl, by decide +kernel, by decide +kernel⟩
noncomputable def pk__law_close : { g : SM // ∀ {P : Program} {w : World} {Z : Zx} {base : Heap} {f : Addr} {cdv : Value} {A : Around} {outer : List Env} {s : Shared} {H : Hp} {E : XK} (hr : Room 1 (A.deeper (envOfC "_law_close" (defScope st__law_close) s.heap.objs.size f cdv))) (N : Nb Z.mg) (F__law_draws : DefOk P w Z base "_law_draws" 1 ["urn", "many"] [0] m__law_draws),
    SB (cxOf (L2N.CX P w) P w Z.K Z.mg base nm__law_close "_law_close" (defScope st__law_close) f cdv A outer s H E) Z [0] (fun cls d _ H => E cls d H) (defBody st__law_close) g } :=
  ⟨_, fun {P w Z base f cdv A outer s H E} hr N F__law_draws =>
    have nd := sc__law_close.nd
    have tk : L2N.Takes (cxOf (L2N.CX P w) P w Z.K Z.mg base nm__law_close "_law_close" (defScope st__law_close) f cdv A outer s H E) (fun cls d _ H => E cls d H) := L2N.takes_of rfl rfl rfl rfl
    have po : PassesOwn (model P w) (cxOf (L2N.CX P w) P w Z.K Z.mg base nm__law_close "_law_close" (defScope st__law_close) f cdv A outer s H E).A (cxOf (L2N.CX P w) P w Z.K Z.mg base nm__law_close "_law_close" (defScope st__law_close) f cdv A outer s H E).env (cxOf (L2N.CX P w) P w Z.K Z.mg base nm__law_close "_law_close" (defScope st__law_close) f cdv A outer s H E).xe := passes_of (X := (cxOf (L2N.CX P w) P w Z.K Z.mg base nm__law_close "_law_close" (defScope st__law_close) f cdv A outer s H E)) rfl
    (sb_cons (ss_par 3 4 (el_cons (ev_er (er_call F__law_draws hr tk (ea_s 0 (ea_d (ev_callB f_len N.len boot_len (el_cons (ev_var 2) el_nil)) ea_nil)))) (el_cons (ev_er (er_call F__law_draws hr tk (ea_s 0 (ea_d ev_int ea_nil)))) el_nil)) nd)
    (sb_cons (ss_asg (ev_ix (ev_var 2) (ev_var 3)) (gt_tup (n := 3) (gs_cons (gt_name 5 nd) (gs_cons (gt_name 6 nd) (gs_cons (gt_name 7 nd) gs_nil)))))
    (sb_cons (ss_if (et_cmp (c_eq hr.units) (ev_var 4) ev_int)
      (sb_one (ss_ret (er_ev (ev_var 2))))
      sb_nil)
    (sb_cons (ss_if (et_cmp (c_eq hr.units) (ev_var 4) ev_int)
      (sb_one (ss_set 5 (er_call F__law_draws hr tk (ea_s 0 (ea_d (ev_callB f_len N.len boot_len (el_cons (ev_ix (ev_var 1) ev_int) el_nil)) ea_nil))) nd))
      (sb_one (ss_if (et_cmp (c_eq hr.units) (ev_var 4) ev_int)
        (sb_one (ss_par 6 7 (el_cons (ev_var 7) (el_cons (ev_var 6) el_nil)) nd))
        (sb_one (ss_set 7 (er_call F__law_draws hr tk (ea_s 0 (ea_d (ev_callB f_len N.len boot_len (el_cons (ev_var 2) el_nil)) ea_nil))) nd)))))
    (sb_one (ss_ret (er_ev (ev_bin b_add (ev_bin b_add (ev_sl (ev_var 2) eo_none (eo_some (ev_var 3))) (ev_tup (el_cons (ev_tup (el_cons (ev_var 5) (el_cons (ev_var 6) (el_cons (ev_var 7) el_nil)))) el_nil))) (ev_sl (ev_var 2) (eo_some (ev_bin b_add (ev_var 3) ev_int)) eo_none)))))))))⟩
noncomputable def m__law_close : FM := mDef 8 3 pk__law_close.1
theorem ok__law_close {P : Program} {w : World} {Z : Zx} {base : Heap} (A : FunAt Z "_law_close" st__law_close ["urn", "house", "rule"]) (N : Nb Z.mg) (F__law_draws : DefOk P w Z base "_law_draws" 1 ["urn", "many"] [0] m__law_draws) : DefOk P w Z base "_law_close" 2 ["urn", "house", "rule"] [0] m__law_close := by
  obtain ⟨f, fd, h1, h2, h3⟩ := A
  exact defOk h1 sc__law_close h2 h3 fun cdv A outer s H E hr => pk__law_close.2 hr N F__law_draws
abbrev st__law_kinds : Stmt := topS 35
abbrev nm__law_kinds : List Str := ["e", "some", "words", "word", "good"]
theorem sc__law_kinds : FnScope nm__law_kinds ["e"] (defScope st__law_kinds) := ⟨rfl, rfl, rfl, by decide +kernel, rfl, by decide +kernel, by decide +kernel⟩
noncomputable def pk__law_kinds (x : Str) : { g : SM // ∀ {P : Program} {w : World} {Z : Zx} {C a : Addr} {oe : Obj} (N : Nb Z.mg) (hF : KF Z x C) (hz : L2N.Zn (.ref C) none oe) (hd : ∃ vs, oe.data = .fields vs) {base : Heap} {f : Addr} {cdv : Value} {A : Around} {outer : List Env} {s : Shared} {H : Hp} {E : XK} (hot : Hot1 A (a, oe)),
    SB (cxH (L2N.CX P w) P w Z.K Z.mg base nm__law_kinds "_law_kinds" (defScope st__law_kinds) f cdv A outer s H E (a, oe)) { Z with ea := a } [] (fun cls d _ H => E cls d H) (defBody st__law_kinds) g } :=
  ⟨_, fun {P w Z C a oe} N hF hz hd {base f cdv A outer s H E} hot =>
    have nd := sc__law_kinds.nd
    have hp : (a, oe) ∈ [(a, oe)] := List.mem_singleton_self _
    have hF' : KF { Z with ea := a } x C := hF.at
    (sb_cons (ss_set 1 (er_lst (el_cons (ev_isO hp hF' hz.zc hd N (ev_var 0)) (el_cons (ev_isO hp hF' hz.zc hd N (ev_var 0)) (el_cons (ev_isO hp hF' hz.zc hd N (ev_var 0)) el_nil)))) nd)
    (sb_cons (ss_set 1 (er_cat (ev_var 1) (ev_er (er_lst (el_cons (ev_isO hp hF' hz.zc hd N (ev_var 0)) (el_cons (ev_isO hp hF' hz.zc hd N (ev_var 0)) (el_cons (ev_isO hp hF' hz.zc hd N (ev_var 0)) el_nil)))))) nd)
    (sb_cons (ss_set 1 (er_cat (ev_var 1) (ev_er (er_lst (el_cons (ev_isO hp hF' hz.zc hd N (ev_var 0)) (el_cons (ev_isO hp hF' hz.zc hd N (ev_var 0)) (el_cons (ev_isO hp hF' hz.zc hd N (ev_var 0)) el_nil)))))) nd)
    (sb_cons (ss_app 1 (ev_isV hp hF' hz.zc hd N (ev_var 0)))
    (sb_cons (ss_set 2 (er_lst (el_cons ev_str (el_cons ev_str (el_cons ev_str (el_cons ev_str (el_cons ev_str (el_cons ev_str el_nil))))))) nd)
    (sb_cons (ss_set 2 (er_cat (ev_var 2) (ev_er (er_lst (el_cons ev_str (el_cons ev_str (el_cons ev_str (el_cons ev_str el_nil))))))) nd)
    (sb_one (ss_ret (er_ev (ev_join ev_str (ev_er (er_lczH hot hp nd 3 4 (blkOk_by (own := [("word", 3), ("good", 4)]) (N := nm__law_kinds) (sc := defScope st__law_kinds) (by decide +kernel)) N.zip (el_cons (ev_var 2) (el_cons (ev_var 1) el_nil))))))))))))))⟩
theorem ok__law_kinds {P : Program} {w : World} {Z : Zx} {base : Heap} (A : FunAt Z "_law_kinds" st__law_kinds ["e"]) (N : Nb Z.mg) : KindsOk P w Z base ks :=
  kindsOk A sc__law_kinds (fun x => (pk__law_kinds x).1) (fun x C a oe hF hz hd f cdv A outer s H E hot => (pk__law_kinds x).2 N hF hz hd hot) (List.all_eq_true.mp (by decide +kernel : (ks.all fun x => retS ((pk__law_kinds x).1 (some (.d .exc) :: List.replicate (nm__law_kinds.length - 1) none)) (toldOf x)) = true))
abbrev st__law_call : Stmt := topS 36
theorem sc__law_call : FnScope nmC ["call_so"] (defScope st__law_call) := ⟨rfl, rfl, rfl, by decide +kernel, rfl, by decide +kernel, by decide +kernel⟩
theorem ok__law_call {P : Program} {w : World} {Z : Zx} {base : Heap} (A : FunAt Z "_law_call" st__law_call ["call_so"]) (Kd : KindsOk P w Z base ks) (kf : ∀ x ∈ ks, ∃ C, KF Z x C) (hTM : ∃ T, Z.mg "TooMany" = some (.ref T)) (hLE : ∃ T, Z.mg "LookError" = some (.ref T)) : CallOk P w Z base ks := by
  obtain ⟨g, fd, h1, h2, h3⟩ := A
  refine ⟨⟨g, fd, st__law_call, h1, h2, h3, sc__law_call, Or.inl rfl, fun X e1 e2 e3 e4 e5 hd cdg q => ?_⟩, kf⟩
  subst e1 e2 e5
  exact law_gives Kd ⟨e3.symm, e4.symm⟩ hd hTM hLE rfl rfl rfl rfl rfl
abbrev st__law_text_of : Stmt := topS 37
abbrev nm__law_text_of : List Str := ["rule", "lines", "place", "empty", "found", "line"]
theorem sc__law_text_of : FnScope nm__law_text_of ["rule"] (defScope st__law_text_of) := ⟨rfl, rfl, rfl, by decide +kernel, rfl, by decide +kernel, by decide +kernel⟩
noncomputable def pk__law_text_of : { g : SM // ∀ {P : Program} {w : World} {Z : Zx} {base : Heap} {f : Addr} {cdv : Value} {A : Around} {outer : List Env} {s : Shared} {H : Hp} {E : XK} (hr : Room 0 (A.deeper (envOfC "_law_text_of" (defScope st__law_text_of) s.heap.objs.size f cdv))) (N : Nb Z.mg),
    SB (cxOf (L2N.CX P w) P w Z.K Z.mg base nm__law_text_of "_law_text_of" (defScope st__law_text_of) f cdv A outer s H E) Z [] (fun cls d _ H => E cls d H) (defBody st__law_text_of) g } :=
  ⟨_, fun {P w Z base f cdv A outer s H E} hr N =>
    have nd := sc__law_text_of.nd
    have tk : L2N.Takes (cxOf (L2N.CX P w) P w Z.K Z.mg base nm__law_text_of "_law_text_of" (defScope st__law_text_of) f cdv A outer s H E) (fun cls d _ H => E cls d H) := L2N.takes_of rfl rfl rfl rfl
    have po : PassesOwn (model P w) (cxOf (L2N.CX P w) P w Z.K Z.mg base nm__law_text_of "_law_text_of" (defScope st__law_text_of) f cdv A outer s H E).A (cxOf (L2N.CX P w) P w Z.K Z.mg base nm__law_text_of "_law_text_of" (defScope st__law_text_of) f cdv A outer s H E).env (cxOf (L2N.CX P w) P w Z.K Z.mg base nm__law_text_of "_law_text_of" (defScope st__law_text_of) f cdv A outer s H E).xe := passes_of (X := (cxOf (L2N.CX P w) P w Z.K Z.mg base nm__law_text_of "_law_text_of" (defScope st__law_text_of) f cdv A outer s H E)) rfl
    (sb_cons (ss_set 1 (er_lst el_nil) nd)
    (sb_cons (ss_for po (ei_list (ev_var 0)) (gt_tup (n := 3) (gs_cons (gt_name 2 nd) (gs_cons (gt_name 3 nd) (gs_cons (gt_name 4 nd) gs_nil))))
      (sb_cons (ss_set 5 (er_ev (ev_bin b_add ev_str (ev_callT f_str N.str bt_str (el_cons (ev_var 2) el_nil)))) nd)
      (sb_cons (ss_if (et_cmp (c_eq hr.units) (ev_var 3) (ev_var 4))
        (sb_one (ss_set 5 (er_ev (ev_bin b_add (ev_bin b_add (ev_var 5) ev_str) (ev_callT f_str N.str bt_str (el_cons (ev_var 3) el_nil)))) nd))
        (sb_one (ss_set 5 (er_ev (ev_bin b_add (ev_bin b_add (ev_bin b_add (ev_bin b_add (ev_var 5) ev_str) (ev_callT f_str N.str bt_str (el_cons (ev_var 3) el_nil))) ev_str) (ev_callT f_str N.str bt_str (el_cons (ev_var 4) el_nil)))) nd)))
      (sb_one (ss_app 1 (ev_var 5))))))
    (sb_one (ss_ret (er_ev (ev_join ev_str (ev_var 1)))))))⟩
noncomputable def m__law_text_of : FM := mDef 6 1 pk__law_text_of.1
theorem ok__law_text_of {P : Program} {w : World} {Z : Zx} {base : Heap} (A : FunAt Z "_law_text_of" st__law_text_of ["rule"]) (N : Nb Z.mg) : DefOk P w Z base "_law_text_of" 1 ["rule"] [] m__law_text_of := by
  obtain ⟨f, fd, h1, h2, h3⟩ := A
  exact defOk h1 sc__law_text_of h2 h3 fun cdv A outer s H E hr => pk__law_text_of.2 hr N
abbrev st_law : Stmt := topS 38
abbrev nm_law : List Str := ["script", "k", "urn", "house", "first", "rule", "text", "lines"]
theorem sc_law : FnScope nm_law ["script"] (defScope st_law) := ⟨rfl, rfl, rfl, by decide +kernel, rfl, by decide +kernel, by decide +kernel⟩
noncomputable def pk_law : { g : SM // ∀ {P : Program} {w : World} {Z : Zx} {base : Heap} {f : Addr} {c Pt : Addr} {A : Around} {outer : List Env} {s : Shared} {H : Hp} {E : XK} (hr : Room 7 (A.deeper (envOfC "law" (defScope st_law) s.heap.objs.size f (.ref c)))) (N : Nb Z.mg) (CK : CallOk P w Z base ks) (TB : TabB base Z.mg c Pt) (hT : Z.T = [(Pt, (("law" : Str) ++ (".<locals>." : Str)) ++ ("<lambda>" : Str))]) (F_rule_text : DefOk P w Z base "rule_text" 5 ["house", "rule"] [] m_rule_text) (F_read_rule : DefOk P w Z base "read_rule" 5 ["house", "text"] [] m_read_rule) (F__law_urn : DefOk P w Z base "_law_urn" 1 ["script", "k"] [] m__law_urn) (F__law_house : DefOk P w Z base "_law_house" 2 ["urn", "three"] [0] m__law_house) (F__law_rule : DefOk P w Z base "_law_rule" 2 ["urn", "house", "most"] [0] m__law_rule) (F__law_close : DefOk P w Z base "_law_close" 2 ["urn", "house", "rule"] [0] m__law_close) (F__law_text_of : DefOk P w Z base "_law_text_of" 1 ["rule"] [] m__law_text_of),
    SB (cxOf (L2N.CX P w) P w Z.K Z.mg base nm_law "law" (defScope st_law) f (.ref c) A outer s H E) Z [] (fun cls d _ H => E cls d H) (defBody st_law) g } :=
  ⟨_, fun {P w Z base f c Pt A outer s H E} hr N CK TB hT F_rule_text F_read_rule F__law_urn F__law_house F__law_rule F__law_close F__law_text_of =>
    have nd := sc_law.nd
    have tk : L2N.Takes (cxOf (L2N.CX P w) P w Z.K Z.mg base nm_law "law" (defScope st_law) f (.ref c) A outer s H E) (fun cls d _ H => E cls d H) := L2N.takes_of rfl rfl rfl rfl
    have po : PassesOwn (model P w) (cxOf (L2N.CX P w) P w Z.K Z.mg base nm_law "law" (defScope st_law) f (.ref c) A outer s H E).A (cxOf (L2N.CX P w) P w Z.K Z.mg base nm_law "law" (defScope st_law) f (.ref c) A outer s H E).env (cxOf (L2N.CX P w) P w Z.K Z.mg base nm_law "law" (defScope st_law) f (.ref c) A outer s H E).xe := passes_of (X := (cxOf (L2N.CX P w) P w Z.K Z.mg base nm_law "law" (defScope st_law) f (.ref c) A outer s H E)) rfl
    (sb_cons (ss_for po (ei_range1 N.range (el_cons (ev_callB f_max2 N.max bt_max (el_cons ev_int (el_cons (ev_callB f_min2 N.min bt_min (el_cons ev_int (el_cons (ev_callB f_len N.len boot_len (el_cons (ev_var 0) el_nil)) el_nil))) el_nil))) el_nil)) (gt_name 1 nd)
      (sb_cons (ss_set 2 (er_call F__law_urn hr tk (ea_d (ev_var 0) (ea_d (ev_var 1) ea_nil))) nd)
      (sb_cons (ss_set 3 (er_call F__law_house hr tk (ea_s 2 (ea_d ev_bl ea_nil))) nd)
      (sb_cons (ss_set 4 (er_call F__law_rule hr tk (ea_s 2 (ea_d (ev_var 3) (ea_d ev_int ea_nil)))) nd)
      (sb_one (ss_for po (ei_list (ev_tup (el_cons (ev_var 4) (el_cons (ev_er (er_call F__law_close hr tk (ea_s 2 (ea_d (ev_var 3) (ea_d (ev_var 4) ea_nil))))) el_nil)))) (gt_name 5 nd)
        (sb_cons (ss_set 6 (er_call F__law_text_of hr tk (ea_d (ev_var 5) ea_nil)) nd)
        (sb_cons (ss_if (et_ew (ew_or (et_cmp (c_ne hr.units) (ev_er (er_call F_rule_text hr tk (ea_d (ev_var 3) (ea_d (ev_var 5) ea_nil)))) (ev_var 6)) (ew_or1 (et_cmp (c_ne hr.units) (ev_law (sc := defScope st_law) CK TB rfl hT hr fun A outer s H E f c' hr2 => (ev_er (er_call F_read_rule hr2 takes_lamN (ea_d (ev_var 3) (ea_d (ev_var 6) ea_nil))))) (ev_tup (el_cons ev_str (el_cons (ev_var 5) el_nil)))))))
          (sb_one (ss_ret (er_ev ev_bl)))
          sb_nil)
        (sb_cons (ss_if (et_cmp (c_ne hr.units) (ev_law (sc := defScope st_law) CK TB rfl hT hr fun A outer s H E f c' hr2 => (ev_er (er_call F_rule_text hr2 takes_lamN (ea_d (ev_var 3) (ea_d (ev_er (er_callT f_list N.list bt_list (el_cons (ev_var 5) el_nil))) ea_nil))))) (ev_tup (el_cons ev_str el_nil)))
          (sb_one (ss_ret (er_ev ev_bl)))
          sb_nil)
        (sb_cons (ss_if (et_cmp (c_ne hr.units) (ev_law (sc := defScope st_law) CK TB rfl hT hr fun A outer s H E f c' hr2 => (ev_er (er_call F_rule_text hr2 takes_lamN (ea_d ev_non (ea_d ev_non ea_nil))))) (ev_tup (el_cons ev_str el_nil)))
          (sb_one (ss_ret (er_ev ev_bl)))
          sb_nil)
        (sb_one (ss_if (et_cmp (c_ne hr.units) (ev_law (sc := defScope st_law) CK TB rfl hT hr fun A outer s H E f c' hr2 => (ev_er (er_call F_read_rule hr2 takes_lamN (ea_d (ev_sl (ev_var 3) eo_none (eo_some ev_int)) (ea_d ev_non ea_nil))))) (ev_tup (el_cons ev_str el_nil)))
          (sb_one (ss_ret (er_ev ev_bl)))
          sb_nil))))))))))))
    (sb_cons (ss_set 7 (er_lst (el_cons ev_str (el_cons ev_str el_nil))) nd)
    (sb_one (ss_ret (er_ev (ev_cmp (c_eq hr.units) (ev_er (er_call F_rule_text hr tk (ea_d (ev_tup (el_cons (ev_tup (el_cons ev_int (el_cons ev_int el_nil))) (el_cons (ev_tup (el_cons ev_int el_nil)) (el_cons ev_int el_nil)))) (ea_d (ev_tup (el_cons (ev_tup (el_cons ev_int (el_cons ev_int (el_cons ev_int el_nil)))) (el_cons (ev_tup (el_cons ev_int (el_cons ev_int (el_cons ev_int el_nil)))) el_nil))) ea_nil)))) (ev_join ev_str (ev_var 7))))))))⟩
noncomputable def m_law : FM := mDef 8 1 pk_law.1
theorem ok_law {P : Program} {w : World} {Z : Zx} {base : Heap} {f c Pt : Addr} {oc : Value} {od an : Option Addr} {osl : Array (Option Value)} {kV doc pm ct : Value} (lk : Z.K.lookup f = some ⟨oc, od, .func (PySem.W.fnOf "law" "law" (defArgs st_law) (defBody st_law) (defScope st_law) .none kV doc pm an (.ref c) ct), osl⟩) (hcd : PySem.W.codeIn Z.K (.ref c) "law" = true) (N : Nb Z.mg) (CK : CallOk P w Z base ks) (TB : TabB base Z.mg c Pt) (hT : Z.T = [(Pt, (("law" : Str) ++ (".<locals>." : Str)) ++ ("<lambda>" : Str))]) (F_rule_text : DefOk P w Z base "rule_text" 5 ["house", "rule"] [] m_rule_text) (F_read_rule : DefOk P w Z base "read_rule" 5 ["house", "text"] [] m_read_rule) (F__law_urn : DefOk P w Z base "_law_urn" 1 ["script", "k"] [] m__law_urn) (F__law_house : DefOk P w Z base "_law_house" 2 ["urn", "three"] [0] m__law_house) (F__law_rule : DefOk P w Z base "_law_rule" 2 ["urn", "house", "most"] [0] m__law_rule) (F__law_close : DefOk P w Z base "_law_close" 2 ["urn", "house", "rule"] [0] m__law_close) (F__law_text_of : DefOk P w Z base "_law_text_of" 1 ["rule"] [] m__law_text_of) :
    FnOk P w Z.K Z.mg base (L2N.CX P w) 8 f (PySem.W.fnOf "law" "law" (defArgs st_law) (defBody st_law) (defScope st_law) .none kV doc pm an (.ref c) ct) ["script"] (spD Z [] m_law) :=
  fn_of lk hcd sc_law (fun vs H Q E h => spD_len h) (fun A outer s H vs Q E hr h => ⟨_, pk_law.2 hr N CK TB hT F_rule_text F_read_rule F__law_urn F__law_house F__law_rule F__law_close F__law_text_of, spD_in h⟩)
theorem all_law {P : Program} {w : World} {K : PySem.W.Frag} {mg : Str → Option Value} {base : Heap} {f c Pt : Addr} {oc : Value} {od an : Option Addr} {osl : Array (Option Value)} {kV doc pm ct : Value} (N : Nb mg) (A_is_int : FunAt ⟨K, mg, [], 0⟩ "is_int" st_is_int ["value", "low", "high"]) (A_are_ints : FunAt ⟨K, mg, [], 0⟩ "are_ints" st_are_ints ["value", "many", "low", "high"]) (A_is_house : FunAt ⟨K, mg, [], 0⟩ "is_house" st_is_house ["value"]) (A_size_of : FunAt ⟨K, mg, [], 0⟩ "size_of" st_size_of ["house", "many"]) (A_is_rule_of : FunAt ⟨K, mg, [], 0⟩ "is_rule_of" st_is_rule_of ["house", "value"]) (A_need_house : FunAt ⟨K, mg, [], 0⟩ "need_house" st_need_house ["house"]) (A_need_rule : FunAt ⟨K, mg, [], 0⟩ "need_rule" st_need_rule ["house", "rule"]) (A_line_of : FunAt ⟨K, mg, [], 0⟩ "line_of" st_line_of ["state"]) (A_text_of : FunAt ⟨K, mg, [], 0⟩ "text_of" st_text_of ["rule"]) (A_figure : FunAt ⟨K, mg, [], 0⟩ "figure" st_figure ["word"]) (A_state_in : FunAt ⟨K, mg, [], 0⟩ "state_in" st_state_in ["line"]) (A_rule_text : FunAt ⟨K, mg, [], 0⟩ "rule_text" st_rule_text ["house", "rule"]) (A_read_rule : FunAt ⟨K, mg, [], 0⟩ "read_rule" st_read_rule ["house", "text"]) (A__law_urn : FunAt ⟨K, mg, [], 0⟩ "_law_urn" st__law_urn ["script", "k"]) (A__law_draws : FunAt ⟨K, mg, [], 0⟩ "_law_draws" st__law_draws ["urn", "many"]) (A__law_house : FunAt ⟨K, mg, [], 0⟩ "_law_house" st__law_house ["urn", "three"]) (A__law_fits : FunAt ⟨K, mg, [], 0⟩ "_law_fits" st__law_fits ["house", "many"]) (A__law_rule : FunAt ⟨K, mg, [], 0⟩ "_law_rule" st__law_rule ["urn", "house", "most"]) (A__law_close : FunAt ⟨K, mg, [], 0⟩ "_law_close" st__law_close ["urn", "house", "rule"]) (A__law_kinds : FunAt ⟨K, mg, [], 0⟩ "_law_kinds" st__law_kinds ["e"]) (A__law_call : FunAt ⟨K, mg, [], 0⟩ "_law_call" st__law_call ["call_so"]) (A__law_text_of : FunAt ⟨K, mg, [], 0⟩ "_law_text_of" st__law_text_of ["rule"]) (c_MOST_STANDS : ∃ t, mg "MOST_STANDS" = some (.int 4000 t)) (c_FIGURES : ∃ t, mg "FIGURES" = some (.str "0123" t)) (x_InvalidHouse : DL.ExcC K mg "InvalidHouse") (x_InvalidRule : DL.ExcC K mg "InvalidRule") (x_NoText : DL.ExcC K mg "NoText") (kf : ∀ x ∈ ks, ∃ C, KF ⟨K, mg, [], 0⟩ x C) (hTM : ∃ T, mg "TooMany" = some (.ref T)) (hLE : ∃ T, mg "LookError" = some (.ref T))
    (TB : TabB base mg c Pt) (lk : K.lookup f = some ⟨oc, od, .func (PySem.W.fnOf "law" "law" (defArgs st_law) (defBody st_law) (defScope st_law) .none kV doc pm an (.ref c) ct), osl⟩) (hcd : PySem.W.codeIn K (.ref c) "law" = true) :
    FnOk P w K mg base (L2N.CX P w) 8 f (PySem.W.fnOf "law" "law" (defArgs st_law) (defBody st_law) (defScope st_law) .none kV doc pm an (.ref c) ct) ["script"] (spD ⟨K, mg, [(Pt, (("law" : Str) ++ (".<locals>." : Str)) ++ ("<lambda>" : Str))], 0⟩ [] m_law) := by
  have F_is_int : DefOk P w ⟨K, mg, [(Pt, (("law" : Str) ++ (".<locals>." : Str)) ++ ("<lambda>" : Str))], 0⟩ base "is_int" 1 ["value", "low", "high"] [] m_is_int := ok_is_int A_is_int N 
  have F_are_ints : DefOk P w ⟨K, mg, [(Pt, (("law" : Str) ++ (".<locals>." : Str)) ++ ("<lambda>" : Str))], 0⟩ base "are_ints" 2 ["value", "many", "low", "high"] [] m_are_ints := ok_are_ints A_are_ints N F_is_int
  have F_is_house : DefOk P w ⟨K, mg, [(Pt, (("law" : Str) ++ (".<locals>." : Str)) ++ ("<lambda>" : Str))], 0⟩ base "is_house" 3 ["value"] [] m_is_house := ok_is_house A_is_house N F_is_int F_are_ints
  have F_size_of : DefOk P w ⟨K, mg, [(Pt, (("law" : Str) ++ (".<locals>." : Str)) ++ ("<lambda>" : Str))], 0⟩ base "size_of" 1 ["house", "many"] [] m_size_of := ok_size_of A_size_of N 
  have F_is_rule_of : DefOk P w ⟨K, mg, [(Pt, (("law" : Str) ++ (".<locals>." : Str)) ++ ("<lambda>" : Str))], 0⟩ base "is_rule_of" 3 ["house", "value"] [] m_is_rule_of := ok_is_rule_of A_is_rule_of N F_are_ints F_size_of c_MOST_STANDS
  have F_need_house : DefOk P w ⟨K, mg, [(Pt, (("law" : Str) ++ (".<locals>." : Str)) ++ ("<lambda>" : Str))], 0⟩ base "need_house" 4 ["house"] [] m_need_house := ok_need_house A_need_house N F_is_house x_InvalidHouse
  have F_need_rule : DefOk P w ⟨K, mg, [(Pt, (("law" : Str) ++ (".<locals>." : Str)) ++ ("<lambda>" : Str))], 0⟩ base "need_rule" 4 ["house", "rule"] [] m_need_rule := ok_need_rule A_need_rule N F_is_rule_of x_InvalidRule
  have F_line_of : DefOk P w ⟨K, mg, [(Pt, (("law" : Str) ++ (".<locals>." : Str)) ++ ("<lambda>" : Str))], 0⟩ base "line_of" 1 ["state"] [] m_line_of := ok_line_of A_line_of N 
  have F_text_of : DefOk P w ⟨K, mg, [(Pt, (("law" : Str) ++ (".<locals>." : Str)) ++ ("<lambda>" : Str))], 0⟩ base "text_of" 2 ["rule"] [] m_text_of := ok_text_of A_text_of N F_line_of
  have F_figure : DefOk P w ⟨K, mg, [(Pt, (("law" : Str) ++ (".<locals>." : Str)) ++ ("<lambda>" : Str))], 0⟩ base "figure" 1 ["word"] [] m_figure := ok_figure A_figure N c_FIGURES
  have F_state_in : DefOk P w ⟨K, mg, [(Pt, (("law" : Str) ++ (".<locals>." : Str)) ++ ("<lambda>" : Str))], 0⟩ base "state_in" 2 ["line"] [] m_state_in := ok_state_in A_state_in N F_figure
  have F_rule_text : DefOk P w ⟨K, mg, [(Pt, (("law" : Str) ++ (".<locals>." : Str)) ++ ("<lambda>" : Str))], 0⟩ base "rule_text" 5 ["house", "rule"] [] m_rule_text := ok_rule_text A_rule_text N F_need_house F_need_rule F_text_of
  have F_read_rule : DefOk P w ⟨K, mg, [(Pt, (("law" : Str) ++ (".<locals>." : Str)) ++ ("<lambda>" : Str))], 0⟩ base "read_rule" 5 ["house", "text"] [] m_read_rule := ok_read_rule A_read_rule N F_is_rule_of F_need_house F_text_of F_state_in x_NoText
  have F__law_urn : DefOk P w ⟨K, mg, [(Pt, (("law" : Str) ++ (".<locals>." : Str)) ++ ("<lambda>" : Str))], 0⟩ base "_law_urn" 1 ["script", "k"] [] m__law_urn := ok__law_urn A__law_urn N 
  have F__law_draws : DefOk P w ⟨K, mg, [(Pt, (("law" : Str) ++ (".<locals>." : Str)) ++ ("<lambda>" : Str))], 0⟩ base "_law_draws" 1 ["urn", "many"] [0] m__law_draws := ok__law_draws A__law_draws N 
  have F__law_house : DefOk P w ⟨K, mg, [(Pt, (("law" : Str) ++ (".<locals>." : Str)) ++ ("<lambda>" : Str))], 0⟩ base "_law_house" 2 ["urn", "three"] [0] m__law_house := ok__law_house A__law_house N F__law_draws
  have F__law_fits : DefOk P w ⟨K, mg, [(Pt, (("law" : Str) ++ (".<locals>." : Str)) ++ ("<lambda>" : Str))], 0⟩ base "_law_fits" 1 ["house", "many"] [] m__law_fits := ok__law_fits A__law_fits N 
  have F__law_rule : DefOk P w ⟨K, mg, [(Pt, (("law" : Str) ++ (".<locals>." : Str)) ++ ("<lambda>" : Str))], 0⟩ base "_law_rule" 2 ["urn", "house", "most"] [0] m__law_rule := ok__law_rule A__law_rule N F__law_draws F__law_fits
  have F__law_close : DefOk P w ⟨K, mg, [(Pt, (("law" : Str) ++ (".<locals>." : Str)) ++ ("<lambda>" : Str))], 0⟩ base "_law_close" 2 ["urn", "house", "rule"] [0] m__law_close := ok__law_close A__law_close N F__law_draws
  have F__law_kinds : KindsOk P w ⟨K, mg, [(Pt, (("law" : Str) ++ (".<locals>." : Str)) ++ ("<lambda>" : Str))], 0⟩ base ks := ok__law_kinds A__law_kinds N
  have CK : CallOk P w ⟨K, mg, [(Pt, (("law" : Str) ++ (".<locals>." : Str)) ++ ("<lambda>" : Str))], 0⟩ base ks := ok__law_call A__law_call F__law_kinds (fun x hx => let ⟨C, h⟩ := kf x hx; ⟨C, h.re⟩) hTM hLE
  have F__law_text_of : DefOk P w ⟨K, mg, [(Pt, (("law" : Str) ++ (".<locals>." : Str)) ++ ("<lambda>" : Str))], 0⟩ base "_law_text_of" 1 ["rule"] [] m__law_text_of := ok__law_text_of A__law_text_of N 
  exact ok_law (Z := ⟨K, mg, [(Pt, (("law" : Str) ++ (".<locals>." : Str)) ++ ("<lambda>" : Str))], 0⟩) lk hcd N CK TB rfl F_rule_text F_read_rule F__law_urn F__law_house F__law_rule F__law_close F__law_text_of
end Lw
namespace Lw
open PySem PySem.Spec PyProof.Rows L2 L2H DL DH HotX LamX
/-! ### the urn -/
structure U where
  a : Int
  s : Int
  ha : 0 ≤ a
  hs : 0 ≤ s
  hs2 : s < 2 ^ 40
def U.oc (u : U) : OC := .lst [.int u.a, .int u.s]
theorem log2_lt {i : Int} {k : Nat} (h0 : 0 ≤ i) (h : i < 2 ^ k) (hk : 0 < k) : i.natAbs.log2 < k := by
  by_cases z : i.natAbs = 0
  · rw [z]; simpa using hk
  · rw [Nat.log2_lt z]
    have : (i.natAbs : Int) = i := Int.natAbs_of_nonneg h0
    have h2 : (i.natAbs : Int) < ((2 ^ k : Nat) : Int) := by rw [this]; exact_mod_cast h
    exact_mod_cast h2
theorem draws_ex (u : U) {many : Int} (hm : 1 ≤ many ∧ many ≤ 4096) : ∃ r u', (0 ≤ r ∧ r < many) ∧ m__law_draws [.o u.oc, .d (.int many)] = .ret (.d (.int r)) [.o (U.oc u'), .d (.int many)] := by
  obtain ⟨a, s, ha, hs, hs2⟩ := u
  have h0 : 0 < many := by omega
  have hl : many.natAbs.log2 < 9000 := Nat.lt_trans (log2_lt (k := 13) (by omega) (by omega) (by decide)) (by decide)
  by_cases hp : 0 < a
  · refine ⟨a % many, ⟨a / many, s, Int.ediv_nonneg ha (by omega), hs, hs2⟩, ⟨Int.emod_nonneg _ (by omega), Int.emod_lt_of_pos _ h0⟩, ?_⟩
    unfold m__law_draws U.oc
    refine (mDef_eq rfl).trans ?_
    unfold pk__law_draws
    simp only [bind_ok, bind_ex, thenS_ok, thenS_ex, of_some, mC_eq, kVar, mVar_eq, kMove, mMove_eq, kD, mD_eq, kF, mF_eq, kBin2, kBin, mBin_eq, kBinB2, kBinB, mBinB_eq, kB, mB_eq, kT, mT_eq, kChain3, kChainB, kChain2, kChain, mChain_eq, kAnd, mAnd_eq, kOr, mOr_eq, kNot, mNot_eq, kAndV, mAndV_eq, kOrV, mOrV_eq, kNotV, mNotV_eq, kIf, mIf_eq, mNil_eq, kCons2, kCons, mCons_eq, kTupD, mTup_eq, kLst, mLst_eq, kUn, mUn_eq, kFun, mFun_eq, kFunL2, kFunL, mFunL_eq, kCat, mCat_eq, catK2, kStr2, kStr1, mStr1_eq, kSplit2, kSplit, mSplit_eq, mNo_eq, kPart, mPart_eq, kSl3, kSl2, kSl, mSl_eq, mJs_nil, kJs, mJs_cons, kLenS, mLenS_eq, kIxS3, kIxS2, kIxS, mIxS_eq, aNil_eq, kA2, kA, aD_eq, kAS2, kAS, aS_eq, kCall3, kCall2, kCall, mCall_eq, sSkip_eq, sSeq_eq, seq_nx, seq_rt, seq_ex, seq_bk, seq_ct, kRet, sRet_eq, kExpr, sExpr_eq, kIfS, sIf_eq, kSet, sSet_eq, kPar, sPar_eq, opt_some, kAsg, sAsg_eq, kApp3, kApp2, kApp, sApp_eq, kPut4, kPut3, kPut2, kPut1, kPut, sPut_eq, fin_nx, fin_rt, fin_ex, loop_nx, loop_ct, loop_bk, loop_rt, loop_ex, forL_nil, kTurn, forL_cons, kFor, sFor_eq, kWh, kSeq, mSeq_eq, mRange1_eq, mRange2_eq, mYes_eq, lcopt_some, lcout_ok, lcL_nil, kLc3, kLc2, kLc1, lcL_cons, kLcEnd, kLc, mLc_eq, cEq_int, cNe_int, gI, gAdd, gNeg, cI, gInt, gIx, gLen, gAbs, gMax2, gMin2, gTuple, gList, gAll, bls?, gStr, gIsi, D.ty, gN, gTupl, gsCons, gsNil, atI_0, atI_1, atI_2, atI_3, atI_4, atI_5, atI_6, ixN_0, ixN_1, back, lookA, Arg.look, slotsA, modesFrom, outsFrom, restore, wipeR, SV.toD, OC.toD, List.map_cons, List.map_nil, List.replicate_succ, List.replicate_zero, List.cons_append, List.nil_append, List.getElem?_cons_zero, List.getElem?_cons_succ, List.getElem?_nil, List.set_cons_zero, List.set_cons_succ, List.length_cons, List.length_nil, List.length_map, List.nodup_cons, List.nodup_nil, List.not_mem_nil, List.mem_cons, Option.bind_some, Option.map_some, ↓reduceIte, decide_true, decide_false, Bool.not_true, Bool.not_false, and_self, and_true, true_and, not_false_eq_true, not_true_eq_false, or_false, false_or, Bool.false_eq_true, Nat.sub_self, beq_self_eq_true, Int.reduceBEq, Int.reduceLT, Int.reduceLE, Nat.reduceSub, szl_0, szs_0, szl_1, szs_1, szl_2, szs_2, szl_3, szs_3, szl_4, szs_4, szl_5, szs_5, szl_6, szs_6, szl_7, szs_7, szl_8, szs_8, szl_9, szs_9, szl_10, szs_10, szl_11, szs_11, szl_12, szs_12, hp, h0, hl]
  · have hl2 : s.natAbs.log2 + (30269 : Int).natAbs.log2 < 1000000 := by
      have := log2_lt hs hs2 (by decide)
      have e : (30269 : Int).natAbs.log2 = 14 := by decide +kernel
      omega
    have h3 : 0 ≤ (s * 30269 + 5) % 2147483477 := Int.emod_nonneg _ (by decide)
    have h4 : (s * 30269 + 5) % 2147483477 < 2147483477 := Int.emod_lt_of_pos _ (by decide)
    generalize hS : (s * 30269 + 5) % 2147483477 = S at h3 h4
    have h5 : 0 ≤ S / 262147 % 4096 := Int.emod_nonneg _ (by decide)
    have c1 : ((0 : Int).natAbs.log2 + (4096 : Int).natAbs.log2 < 1000000) = True := by decide +kernel
    have c2 : ((1 : Int).natAbs.log2 + (4096 : Int).natAbs.log2 < 1000000) = True := by decide +kernel
    have c3 : ((262147 : Int).natAbs.log2 < 9000) = True := by decide +kernel
    have c4 : ((0 : Int) < 262147) = True := by decide
    have c5 : ((0 : Int) < 2147483477) = True := by decide
    have c6 : ((0 : Int) < 4096) = True := by decide
    have c7 : ((1 : Int) == 1) = true := by decide
    have c8 : ((0 : Int) * 4096) = 0 := by decide
    have c9 : ((1 : Int) * 4096) = 4096 := by decide
    have c10 : ((4096 : Int) == 1) = false := by decide
    have c11 : (4096 < many) = False := by simp; omega
    refine ⟨(0 + S / 262147 % 4096) % many, ⟨a, S, ha, h3, by omega⟩, ⟨Int.emod_nonneg _ (by omega), Int.emod_lt_of_pos _ h0⟩, ?_⟩
    have w : ∀ b : SM, True := fun _ => trivial
    unfold m__law_draws U.oc
    refine (mDef_eq rfl).trans ?_
    unfold pk__law_draws
    simp only [bind_ok, bind_ex, thenS_ok, thenS_ex, of_some, mC_eq, kVar, mVar_eq, kMove, mMove_eq, kD, mD_eq, kF, mF_eq, kBin2, kBin, mBin_eq, kBinB2, kBinB, mBinB_eq, kB, mB_eq, kT, mT_eq, kChain3, kChainB, kChain2, kChain, mChain_eq, kAnd, mAnd_eq, kOr, mOr_eq, kNot, mNot_eq, kAndV, mAndV_eq, kOrV, mOrV_eq, kNotV, mNotV_eq, kIf, mIf_eq, mNil_eq, kCons2, kCons, mCons_eq, kTupD, mTup_eq, kLst, mLst_eq, kUn, mUn_eq, kFun, mFun_eq, kFunL2, kFunL, mFunL_eq, kCat, mCat_eq, catK2, kStr2, kStr1, mStr1_eq, kSplit2, kSplit, mSplit_eq, mNo_eq, kPart, mPart_eq, kSl3, kSl2, kSl, mSl_eq, mJs_nil, kJs, mJs_cons, kLenS, mLenS_eq, kIxS3, kIxS2, kIxS, mIxS_eq, aNil_eq, kA2, kA, aD_eq, kAS2, kAS, aS_eq, kCall3, kCall2, kCall, mCall_eq, sSkip_eq, sSeq_eq, seq_nx, seq_rt, seq_ex, seq_bk, seq_ct, kRet, sRet_eq, kExpr, sExpr_eq, kIfS, sIf_eq, kSet, sSet_eq, kPar, sPar_eq, opt_some, kAsg, sAsg_eq, kApp3, kApp2, kApp, sApp_eq, kPut4, kPut3, kPut2, kPut1, kPut, sPut_eq, fin_nx, fin_rt, fin_ex, loop_nx, loop_ct, loop_bk, loop_rt, loop_ex, forL_nil, kTurn, forL_cons, kFor, sFor_eq, kWh, kSeq, mSeq_eq, mRange1_eq, mRange2_eq, mYes_eq, lcopt_some, lcout_ok, lcL_nil, kLc3, kLc2, kLc1, lcL_cons, kLcEnd, kLc, mLc_eq, cEq_int, cNe_int, gI, gAdd, gNeg, cI, gInt, gIx, gLen, gAbs, gMax2, gMin2, gTuple, gList, gAll, bls?, gStr, gIsi, D.ty, gN, gTupl, gsCons, gsNil, atI_0, atI_1, atI_2, atI_3, atI_4, atI_5, atI_6, ixN_0, ixN_1, back, lookA, Arg.look, slotsA, modesFrom, outsFrom, restore, wipeR, SV.toD, OC.toD, List.map_cons, List.map_nil, List.replicate_succ, List.replicate_zero, List.cons_append, List.nil_append, List.getElem?_cons_zero, List.getElem?_cons_succ, List.getElem?_nil, List.set_cons_zero, List.set_cons_succ, List.length_cons, List.length_nil, List.length_map, List.nodup_cons, List.nodup_nil, List.not_mem_nil, List.mem_cons, Option.bind_some, Option.map_some, ↓reduceIte, decide_true, decide_false, Bool.not_true, Bool.not_false, and_self, and_true, true_and, not_false_eq_true, not_true_eq_false, or_false, false_or, Bool.false_eq_true, Nat.sub_self, beq_self_eq_true, Int.reduceBEq, Int.reduceLT, Int.reduceLE, Nat.reduceSub, szl_0, szs_0, szl_1, szs_1, szl_2, szs_2, szl_3, szs_3, szl_4, szs_4, szl_5, szs_5, szl_6, szs_6, szl_7, szs_7, szl_8, szs_8, szl_9, szs_9, szl_10, szs_10, szl_11, szs_11, szl_12, szs_12, hp]
    rw [while_nx 2 (ρ1 := [some (.o (.lst [.int a, .int S])), some (.d (.int many)), some (.d (.int (0 + S / 262147 % 4096))), some (.d (.int 4096))])]
    · simp only [bind_ok, bind_ex, thenS_ok, thenS_ex, of_some, mC_eq, kVar, mVar_eq, kMove, mMove_eq, kD, mD_eq, kF, mF_eq, kBin2, kBin, mBin_eq, kBinB2, kBinB, mBinB_eq, kB, mB_eq, kT, mT_eq, kChain3, kChainB, kChain2, kChain, mChain_eq, kAnd, mAnd_eq, kOr, mOr_eq, kNot, mNot_eq, kAndV, mAndV_eq, kOrV, mOrV_eq, kNotV, mNotV_eq, kIf, mIf_eq, mNil_eq, kCons2, kCons, mCons_eq, kTupD, mTup_eq, kLst, mLst_eq, kUn, mUn_eq, kFun, mFun_eq, kFunL2, kFunL, mFunL_eq, kCat, mCat_eq, catK2, kStr2, kStr1, mStr1_eq, kSplit2, kSplit, mSplit_eq, mNo_eq, kPart, mPart_eq, kSl3, kSl2, kSl, mSl_eq, mJs_nil, kJs, mJs_cons, kLenS, mLenS_eq, kIxS3, kIxS2, kIxS, mIxS_eq, aNil_eq, kA2, kA, aD_eq, kAS2, kAS, aS_eq, kCall3, kCall2, kCall, mCall_eq, sSkip_eq, sSeq_eq, seq_nx, seq_rt, seq_ex, seq_bk, seq_ct, kRet, sRet_eq, kExpr, sExpr_eq, kIfS, sIf_eq, kSet, sSet_eq, kPar, sPar_eq, opt_some, kAsg, sAsg_eq, kApp3, kApp2, kApp, sApp_eq, kPut4, kPut3, kPut2, kPut1, kPut, sPut_eq, fin_nx, fin_rt, fin_ex, loop_nx, loop_ct, loop_bk, loop_rt, loop_ex, forL_nil, kTurn, forL_cons, kFor, sFor_eq, kWh, kSeq, mSeq_eq, mRange1_eq, mRange2_eq, mYes_eq, lcopt_some, lcout_ok, lcL_nil, kLc3, kLc2, kLc1, lcL_cons, kLcEnd, kLc, mLc_eq, cEq_int, cNe_int, gI, gAdd, gNeg, cI, gInt, gIx, gLen, gAbs, gMax2, gMin2, gTuple, gList, gAll, bls?, gStr, gIsi, D.ty, gN, gTupl, gsCons, gsNil, atI_0, atI_1, atI_2, atI_3, atI_4, atI_5, atI_6, ixN_0, ixN_1, back, lookA, Arg.look, slotsA, modesFrom, outsFrom, restore, wipeR, SV.toD, OC.toD, List.map_cons, List.map_nil, List.replicate_succ, List.replicate_zero, List.cons_append, List.nil_append, List.getElem?_cons_zero, List.getElem?_cons_succ, List.getElem?_nil, List.set_cons_zero, List.set_cons_succ, List.length_cons, List.length_nil, List.length_map, List.nodup_cons, List.nodup_nil, List.not_mem_nil, List.mem_cons, Option.bind_some, Option.map_some, ↓reduceIte, decide_true, decide_false, Bool.not_true, Bool.not_false, and_self, and_true, true_and, not_false_eq_true, not_true_eq_false, or_false, false_or, Bool.false_eq_true, Nat.sub_self, beq_self_eq_true, Int.reduceBEq, Int.reduceLT, Int.reduceLE, Nat.reduceSub, szl_0, szs_0, szl_1, szs_1, szl_2, szs_2, szl_3, szs_3, szl_4, szs_4, szl_5, szs_5, szl_6, szs_6, szl_7, szs_7, szl_8, szs_8, szl_9, szs_9, szl_10, szs_10, szl_11, szs_11, szl_12, szs_12, h0]
    · rw [wh_succ]
      by_cases h1 : 1 < many
      · simp only [bind_ok, bind_ex, thenS_ok, thenS_ex, of_some, mC_eq, kVar, mVar_eq, kMove, mMove_eq, kD, mD_eq, kF, mF_eq, kBin2, kBin, mBin_eq, kBinB2, kBinB, mBinB_eq, kB, mB_eq, kT, mT_eq, kChain3, kChainB, kChain2, kChain, mChain_eq, kAnd, mAnd_eq, kOr, mOr_eq, kNot, mNot_eq, kAndV, mAndV_eq, kOrV, mOrV_eq, kNotV, mNotV_eq, kIf, mIf_eq, mNil_eq, kCons2, kCons, mCons_eq, kTupD, mTup_eq, kLst, mLst_eq, kUn, mUn_eq, kFun, mFun_eq, kFunL2, kFunL, mFunL_eq, kCat, mCat_eq, catK2, kStr2, kStr1, mStr1_eq, kSplit2, kSplit, mSplit_eq, mNo_eq, kPart, mPart_eq, kSl3, kSl2, kSl, mSl_eq, mJs_nil, kJs, mJs_cons, kLenS, mLenS_eq, kIxS3, kIxS2, kIxS, mIxS_eq, aNil_eq, kA2, kA, aD_eq, kAS2, kAS, aS_eq, kCall3, kCall2, kCall, mCall_eq, sSkip_eq, sSeq_eq, seq_nx, seq_rt, seq_ex, seq_bk, seq_ct, kRet, sRet_eq, kExpr, sExpr_eq, kIfS, sIf_eq, kSet, sSet_eq, kPar, sPar_eq, opt_some, kAsg, sAsg_eq, kApp3, kApp2, kApp, sApp_eq, kPut4, kPut3, kPut2, kPut1, kPut, sPut_eq, fin_nx, fin_rt, fin_ex, loop_nx, loop_ct, loop_bk, loop_rt, loop_ex, forL_nil, kTurn, forL_cons, kFor, sFor_eq, kWh, kSeq, mSeq_eq, mRange1_eq, mRange2_eq, mYes_eq, lcopt_some, lcout_ok, lcL_nil, kLc3, kLc2, kLc1, lcL_cons, kLcEnd, kLc, mLc_eq, cEq_int, cNe_int, gI, gAdd, gNeg, cI, gInt, gIx, gLen, gAbs, gMax2, gMin2, gTuple, gList, gAll, bls?, gStr, gIsi, D.ty, gN, gTupl, gsCons, gsNil, atI_0, atI_1, atI_2, atI_3, atI_4, atI_5, atI_6, ixN_0, ixN_1, back, lookA, Arg.look, slotsA, modesFrom, outsFrom, restore, wipeR, SV.toD, OC.toD, List.map_cons, List.map_nil, List.replicate_succ, List.replicate_zero, List.cons_append, List.nil_append, List.getElem?_cons_zero, List.getElem?_cons_succ, List.getElem?_nil, List.set_cons_zero, List.set_cons_succ, List.length_cons, List.length_nil, List.length_map, List.nodup_cons, List.nodup_nil, List.not_mem_nil, List.mem_cons, Option.bind_some, Option.map_some, ↓reduceIte, decide_true, decide_false, Bool.not_true, Bool.not_false, and_self, and_true, true_and, not_false_eq_true, not_true_eq_false, or_false, false_or, Bool.false_eq_true, Nat.sub_self, beq_self_eq_true, Int.reduceBEq, Int.reduceLT, Int.reduceLE, Nat.reduceSub, szl_0, szs_0, szl_1, szs_1, szl_2, szs_2, szl_3, szs_3, szl_4, szs_4, szl_5, szs_5, szl_6, szs_6, szl_7, szs_7, szl_8, szs_8, szl_9, szs_9, szl_10, szs_10, szl_11, szs_11, szl_12, szs_12, h1, c1, c2, c3, c4, c5, c6, c7, c8, c9, hl2, hS, wh_succ, c10, c11]
      · simp only [bind_ok, bind_ex, thenS_ok, thenS_ex, of_some, mC_eq, kVar, mVar_eq, kMove, mMove_eq, kD, mD_eq, kF, mF_eq, kBin2, kBin, mBin_eq, kBinB2, kBinB, mBinB_eq, kB, mB_eq, kT, mT_eq, kChain3, kChainB, kChain2, kChain, mChain_eq, kAnd, mAnd_eq, kOr, mOr_eq, kNot, mNot_eq, kAndV, mAndV_eq, kOrV, mOrV_eq, kNotV, mNotV_eq, kIf, mIf_eq, mNil_eq, kCons2, kCons, mCons_eq, kTupD, mTup_eq, kLst, mLst_eq, kUn, mUn_eq, kFun, mFun_eq, kFunL2, kFunL, mFunL_eq, kCat, mCat_eq, catK2, kStr2, kStr1, mStr1_eq, kSplit2, kSplit, mSplit_eq, mNo_eq, kPart, mPart_eq, kSl3, kSl2, kSl, mSl_eq, mJs_nil, kJs, mJs_cons, kLenS, mLenS_eq, kIxS3, kIxS2, kIxS, mIxS_eq, aNil_eq, kA2, kA, aD_eq, kAS2, kAS, aS_eq, kCall3, kCall2, kCall, mCall_eq, sSkip_eq, sSeq_eq, seq_nx, seq_rt, seq_ex, seq_bk, seq_ct, kRet, sRet_eq, kExpr, sExpr_eq, kIfS, sIf_eq, kSet, sSet_eq, kPar, sPar_eq, opt_some, kAsg, sAsg_eq, kApp3, kApp2, kApp, sApp_eq, kPut4, kPut3, kPut2, kPut1, kPut, sPut_eq, fin_nx, fin_rt, fin_ex, loop_nx, loop_ct, loop_bk, loop_rt, loop_ex, forL_nil, kTurn, forL_cons, kFor, sFor_eq, kWh, kSeq, mSeq_eq, mRange1_eq, mRange2_eq, mYes_eq, lcopt_some, lcout_ok, lcL_nil, kLc3, kLc2, kLc1, lcL_cons, kLcEnd, kLc, mLc_eq, cEq_int, cNe_int, gI, gAdd, gNeg, cI, gInt, gIx, gLen, gAbs, gMax2, gMin2, gTuple, gList, gAll, bls?, gStr, gIsi, D.ty, gN, gTupl, gsCons, gsNil, atI_0, atI_1, atI_2, atI_3, atI_4, atI_5, atI_6, ixN_0, ixN_1, back, lookA, Arg.look, slotsA, modesFrom, outsFrom, restore, wipeR, SV.toD, OC.toD, List.map_cons, List.map_nil, List.replicate_succ, List.replicate_zero, List.cons_append, List.nil_append, List.getElem?_cons_zero, List.getElem?_cons_succ, List.getElem?_nil, List.set_cons_zero, List.set_cons_succ, List.length_cons, List.length_nil, List.length_map, List.nodup_cons, List.nodup_nil, List.not_mem_nil, List.mem_cons, Option.bind_some, Option.map_some, ↓reduceIte, decide_true, decide_false, Bool.not_true, Bool.not_false, and_self, and_true, true_and, not_false_eq_true, not_true_eq_false, or_false, false_or, Bool.false_eq_true, Nat.sub_self, beq_self_eq_true, Int.reduceBEq, Int.reduceLT, Int.reduceLE, Nat.reduceSub, szl_0, szs_0, szl_1, szs_1, szl_2, szs_2, szl_3, szs_3, szl_4, szs_4, szl_5, szs_5, szl_6, szs_6, szl_7, szs_7, szl_8, szs_8, szl_9, szs_9, szl_10, szs_10, szl_11, szs_11, szl_12, szs_12, h1, c1, c2, c3, c4, c5, c6, c7, c8, c9, hl2, hS, wh_succ, c10, c11]
/-! ### houses -/
inductive Hs where
  | two (p1 p2 g q : Int) | three (p1 p2 p3 q : Int)
def Hs.d : Hs → D
  | .two p1 p2 g q => .tup [.tup [.int p1, .int p2], .tup [.int g], .int q]
  | .three p1 p2 p3 q => .tup [.tup [.int p1, .int p2, .int p3], .tup [.int 1, .int 1, .int 1], .int q]
def Hs.Ok : Hs → Prop
  | .two p1 p2 g q => (1 ≤ p1 ∧ p1 ≤ 5) ∧ (1 ≤ p2 ∧ p2 ≤ 5) ∧ (1 ≤ g ∧ g ≤ 2) ∧ 1 ≤ q ∧ q ≤ 4
  | .three p1 p2 p3 q => (1 ≤ p1 ∧ p1 ≤ 5) ∧ (1 ≤ p2 ∧ p2 ≤ 5) ∧ (1 ≤ p3 ∧ p3 ≤ 5) ∧ 1 ≤ q ∧ q ≤ 4
def Hs.places : Hs → Int
  | .two .. => 2
  | .three .. => 3
theorem kR1_2 {ρ : Rho} : kRange1 [.int 2] ρ = .ok [.int 0, .int 1] ρ := rfl
theorem kR1_3 {ρ : Rho} : kRange1 [.int 3] ρ = .ok [.int 0, .int 1, .int 2] ρ := rfl
theorem draws_1 {u : U} {m : Int} (h1 : 1 ≤ m := by decide) (h2 : m ≤ 4096 := by decide) : ∃ r u', (0 ≤ r ∧ r < m) ∧ m__law_draws [.o u.oc, .d (.int m)] = .ret (.d (.int r)) [.o (U.oc u'), .d (.int m)] := draws_ex u ⟨h1, h2⟩
theorem house_ex (u : U) : ∃ (H : Hs) (u' : U), H.Ok ∧ m__law_house [.o u.oc, .d (.bl true)] = .ret (.d H.d) [.o u'.oc, .d (.bl true)] := by
  obtain ⟨r0, u0, h0, e0⟩ := draws_1 (u := u) (m := 4)
  obtain ⟨r1, u1, h1, e1⟩ := draws_1 (u := u0) (m := 5)
  obtain ⟨r2, u2, h2, e2⟩ := draws_1 (u := u1) (m := 5)
  by_cases z : r0 = 0
  · obtain ⟨r3, u3, h3, e3⟩ := draws_1 (u := u2) (m := 5)
    obtain ⟨r4, u4, h4, e4⟩ := draws_1 (u := u3) (m := 3)
    refine ⟨.three (1 + r1) (1 + r2) (1 + r3) (1 + r4), u4, ⟨by omega, by omega, by omega, by omega⟩, ?_⟩
    subst z
    unfold m__law_house
    refine (mDef_eq rfl).trans ?_
    unfold pk__law_house
    have c1 : ((0 : Int) == 0) = true := by decide
    simp only [bind_ok, bind_ex, thenS_ok, thenS_ex, of_some, mC_eq, kVar, mVar_eq, kMove, mMove_eq, kD, mD_eq, kF, mF_eq, kBin2, kBin, mBin_eq, kBinB2, kBinB, mBinB_eq, kB, mB_eq, kT, mT_eq, kChain3, kChainB, kChain2, kChain, mChain_eq, kAnd, mAnd_eq, kOr, mOr_eq, kNot, mNot_eq, kAndV, mAndV_eq, kOrV, mOrV_eq, kNotV, mNotV_eq, kIf, mIf_eq, mNil_eq, kCons2, kCons, mCons_eq, kTupD, mTup_eq, kLst, mLst_eq, kUn, mUn_eq, kFun, mFun_eq, kFunL2, kFunL, mFunL_eq, kCat, mCat_eq, catK2, kStr2, kStr1, mStr1_eq, kSplit2, kSplit, mSplit_eq, mNo_eq, kPart, mPart_eq, kSl3, kSl2, kSl, mSl_eq, mJs_nil, kJs, mJs_cons, kLenS, mLenS_eq, kIxS3, kIxS2, kIxS, mIxS_eq, aNil_eq, kA2, kA, aD_eq, kAS2, kAS, aS_eq, kCall3, kCall2, kCall, mCall_eq, sSkip_eq, sSeq_eq, seq_nx, seq_rt, seq_ex, seq_bk, seq_ct, kRet, sRet_eq, kExpr, sExpr_eq, kIfS, sIf_eq, kSet, sSet_eq, kPar, sPar_eq, opt_some, kAsg, sAsg_eq, kApp3, kApp2, kApp, sApp_eq, kPut4, kPut3, kPut2, kPut1, kPut, sPut_eq, fin_nx, fin_rt, fin_ex, loop_nx, loop_ct, loop_bk, loop_rt, loop_ex, forL_nil, kTurn, forL_cons, kFor, sFor_eq, kWh, kSeq, mSeq_eq, mRange1_eq, mRange2_eq, mYes_eq, lcopt_some, lcout_ok, lcL_nil, kLc3, kLc2, kLc1, lcL_cons, kLcEnd, kLc, mLc_eq, cEq_int, cNe_int, gI, gAdd, gNeg, cI, gInt, gIx, gLen, gAbs, gMax2, gMin2, gTuple, gList, gAll, bls?, gStr, gIsi, D.ty, gN, gTupl, gsCons, gsNil, atI_0, atI_1, atI_2, atI_3, atI_4, atI_5, atI_6, ixN_0, ixN_1, back, lookA, Arg.look, slotsA, modesFrom, outsFrom, restore, wipeR, SV.toD, OC.toD, List.map_cons, List.map_nil, List.replicate_succ, List.replicate_zero, List.cons_append, List.nil_append, List.getElem?_cons_zero, List.getElem?_cons_succ, List.getElem?_nil, List.set_cons_zero, List.set_cons_succ, List.length_cons, List.length_nil, List.length_map, List.nodup_cons, List.nodup_nil, List.not_mem_nil, List.mem_cons, Option.bind_some, Option.map_some, ↓reduceIte, decide_true, decide_false, Bool.not_true, Bool.not_false, and_self, and_true, true_and, not_false_eq_true, not_true_eq_false, or_false, false_or, Bool.false_eq_true, Nat.sub_self, beq_self_eq_true, Int.reduceBEq, Int.reduceLT, Int.reduceLE, Nat.reduceSub, szl_0, szs_0, szl_1, szs_1, szl_2, szs_2, szl_3, szs_3, szl_4, szs_4, szl_5, szs_5, szl_6, szs_6, szl_7, szs_7, szl_8, szs_8, szl_9, szs_9, szl_10, szs_10, szl_11, szs_11, szl_12, szs_12, e0, e1, e2, e3, e4, c1, kR1_3, Hs.d]
  · obtain ⟨r3, u3, h3, e3⟩ := draws_1 (u := u2) (m := 2)
    obtain ⟨r4, u4, h4, e4⟩ := draws_1 (u := u3) (m := 4)
    refine ⟨.two (1 + r1) (1 + r2) (1 + r3) (1 + r4), u4, ⟨by omega, by omega, by omega, by omega⟩, ?_⟩
    unfold m__law_house
    refine (mDef_eq rfl).trans ?_
    unfold pk__law_house
    have c1 : (r0 == 0) = false := beq_eq_false_iff_ne.mpr z
    simp only [bind_ok, bind_ex, thenS_ok, thenS_ex, of_some, mC_eq, kVar, mVar_eq, kMove, mMove_eq, kD, mD_eq, kF, mF_eq, kBin2, kBin, mBin_eq, kBinB2, kBinB, mBinB_eq, kB, mB_eq, kT, mT_eq, kChain3, kChainB, kChain2, kChain, mChain_eq, kAnd, mAnd_eq, kOr, mOr_eq, kNot, mNot_eq, kAndV, mAndV_eq, kOrV, mOrV_eq, kNotV, mNotV_eq, kIf, mIf_eq, mNil_eq, kCons2, kCons, mCons_eq, kTupD, mTup_eq, kLst, mLst_eq, kUn, mUn_eq, kFun, mFun_eq, kFunL2, kFunL, mFunL_eq, kCat, mCat_eq, catK2, kStr2, kStr1, mStr1_eq, kSplit2, kSplit, mSplit_eq, mNo_eq, kPart, mPart_eq, kSl3, kSl2, kSl, mSl_eq, mJs_nil, kJs, mJs_cons, kLenS, mLenS_eq, kIxS3, kIxS2, kIxS, mIxS_eq, aNil_eq, kA2, kA, aD_eq, kAS2, kAS, aS_eq, kCall3, kCall2, kCall, mCall_eq, sSkip_eq, sSeq_eq, seq_nx, seq_rt, seq_ex, seq_bk, seq_ct, kRet, sRet_eq, kExpr, sExpr_eq, kIfS, sIf_eq, kSet, sSet_eq, kPar, sPar_eq, opt_some, kAsg, sAsg_eq, kApp3, kApp2, kApp, sApp_eq, kPut4, kPut3, kPut2, kPut1, kPut, sPut_eq, fin_nx, fin_rt, fin_ex, loop_nx, loop_ct, loop_bk, loop_rt, loop_ex, forL_nil, kTurn, forL_cons, kFor, sFor_eq, kWh, kSeq, mSeq_eq, mRange1_eq, mRange2_eq, mYes_eq, lcopt_some, lcout_ok, lcL_nil, kLc3, kLc2, kLc1, lcL_cons, kLcEnd, kLc, mLc_eq, cEq_int, cNe_int, gI, gAdd, gNeg, cI, gInt, gIx, gLen, gAbs, gMax2, gMin2, gTuple, gList, gAll, bls?, gStr, gIsi, D.ty, gN, gTupl, gsCons, gsNil, atI_0, atI_1, atI_2, atI_3, atI_4, atI_5, atI_6, ixN_0, ixN_1, back, lookA, Arg.look, slotsA, modesFrom, outsFrom, restore, wipeR, SV.toD, OC.toD, List.map_cons, List.map_nil, List.replicate_succ, List.replicate_zero, List.cons_append, List.nil_append, List.getElem?_cons_zero, List.getElem?_cons_succ, List.getElem?_nil, List.set_cons_zero, List.set_cons_succ, List.length_cons, List.length_nil, List.length_map, List.nodup_cons, List.nodup_nil, List.not_mem_nil, List.mem_cons, Option.bind_some, Option.map_some, ↓reduceIte, decide_true, decide_false, Bool.not_true, Bool.not_false, and_self, and_true, true_and, not_false_eq_true, not_true_eq_false, or_false, false_or, Bool.false_eq_true, Nat.sub_self, beq_self_eq_true, Int.reduceBEq, Int.reduceLT, Int.reduceLE, Nat.reduceSub, szl_0, szs_0, szl_1, szs_1, szl_2, szs_2, szl_3, szs_3, szl_4, szs_4, szl_5, szs_5, szl_6, szs_6, szl_7, szs_7, szl_8, szs_8, szl_9, szs_9, szl_10, szs_10, szl_11, szs_11, szl_12, szs_12, e0, e1, e2, e3, e4, c1, kR1_2, Hs.d]
def Hs.size : Hs → Int → Int
  | .two _ _ g q, n => 2 * g * g * 16 * q * n
  | .three _ _ _ q, n => 3 * 1 * 1 * 64 * q * n
theorem ints_2 {a b : Int} : ints? [.int a, .int b] = some [a, b] := rfl
theorem maxS_1 {a : Int} : gMaxS [.lst [.int a]] = some (.int a) := rfl
theorem maxT_1 {a : Int} : gMaxS [.tup [.int a]] = some (.int a) := rfl
theorem maxS_3 : gMaxS [.lst [.int 1, .int 1, .int 1]] = some (.int 1) := rfl
theorem maxT_3 : gMaxS [.tup [.int 1, .int 1, .int 1]] = some (.int 1) := rfl
theorem len2 : (((0 + 1 + 1 : Nat)) : Int) = 2 := rfl
theorem len3 : (((0 + 1 + 1 + 1 : Nat)) : Int) = 3 := rfl
theorem len1 : (((0 + 1 : Nat)) : Int) = 1 := rfl
theorem len4 : (((0 + 1 + 1 + 1 + 1 : Nat)) : Int) = 4 := rfl
theorem fits_eq {H : Hs} (hH : H.Ok) {n : Int} (h1 : 1 ≤ n) (h2 : n ≤ 4) : m__law_fits [.d H.d, .d (.int n)] = .ret (.d (.bl (decide (H.size n ≤ 4000)))) [.d H.d, .d (.int n)] := by
  unfold m__law_fits
  refine (mDef_eq rfl).trans ?_
  unfold pk__law_fits
  have hn : n = 1 ∨ n = 2 ∨ n = 3 ∨ n = 4 := by omega
  cases H with
  | two p1 p2 g q =>
    obtain ⟨_, _, hg, hq⟩ := hH
    have hg : g = 1 ∨ g = 2 := by omega
    have hq : q = 1 ∨ q = 2 ∨ q = 3 ∨ q = 4 := by omega
    rcases hg with rfl | rfl <;> rcases hq with rfl | rfl | rfl | rfl <;> rcases hn with rfl | rfl | rfl | rfl <;>
      simp (decide := true) only [bind_ok, bind_ex, thenS_ok, thenS_ex, of_some, mC_eq, kVar, mVar_eq, kMove, mMove_eq, kD, mD_eq, kF, mF_eq, kBin2, kBin, mBin_eq, kBinB2, kBinB, mBinB_eq, kB, mB_eq, kT, mT_eq, kChain3, kChainB, kChain2, kChain, mChain_eq, kAnd, mAnd_eq, kOr, mOr_eq, kNot, mNot_eq, kAndV, mAndV_eq, kOrV, mOrV_eq, kNotV, mNotV_eq, kIf, mIf_eq, mNil_eq, kCons2, kCons, mCons_eq, kTupD, mTup_eq, kLst, mLst_eq, kUn, mUn_eq, kFun, mFun_eq, kFunL2, kFunL, mFunL_eq, kCat, mCat_eq, catK2, kStr2, kStr1, mStr1_eq, kSplit2, kSplit, mSplit_eq, mNo_eq, kPart, mPart_eq, kSl3, kSl2, kSl, mSl_eq, mJs_nil, kJs, mJs_cons, kLenS, mLenS_eq, kIxS3, kIxS2, kIxS, mIxS_eq, aNil_eq, kA2, kA, aD_eq, kAS2, kAS, aS_eq, kCall3, kCall2, kCall, mCall_eq, sSkip_eq, sSeq_eq, seq_nx, seq_rt, seq_ex, seq_bk, seq_ct, kRet, sRet_eq, kExpr, sExpr_eq, kIfS, sIf_eq, kSet, sSet_eq, kPar, sPar_eq, opt_some, kAsg, sAsg_eq, kApp3, kApp2, kApp, sApp_eq, kPut4, kPut3, kPut2, kPut1, kPut, sPut_eq, fin_nx, fin_rt, fin_ex, loop_nx, loop_ct, loop_bk, loop_rt, loop_ex, forL_nil, kTurn, forL_cons, kFor, sFor_eq, kWh, kSeq, mSeq_eq, mRange1_eq, mRange2_eq, mYes_eq, lcopt_some, lcout_ok, lcL_nil, kLc3, kLc2, kLc1, lcL_cons, kLcEnd, kLc, mLc_eq, cEq_int, cNe_int, gAdd, gNeg, cI, gInt, gIx, gLen, gAbs, gMax2, gMin2, gTuple, gList, gAll, bls?, gStr, gIsi, D.ty, gN, gTupl, gsCons, gsNil, atI_0, atI_1, atI_2, atI_3, atI_4, atI_5, atI_6, ixN_0, ixN_1, back, lookA, Arg.look, slotsA, modesFrom, outsFrom, restore, wipeR, SV.toD, OC.toD, List.map_cons, List.map_nil, List.replicate_succ, List.replicate_zero, List.cons_append, List.nil_append, List.getElem?_cons_zero, List.getElem?_cons_succ, List.getElem?_nil, List.set_cons_zero, List.set_cons_succ, List.length_cons, List.length_nil, List.length_map, List.nodup_cons, List.nodup_nil, List.not_mem_nil, List.mem_cons, Option.bind_some, Option.map_some, ↓reduceIte, decide_true, decide_false, Bool.not_true, Bool.not_false, and_self, and_true, true_and, not_false_eq_true, not_true_eq_false, or_false, false_or, Bool.false_eq_true, Nat.sub_self, beq_self_eq_true, Int.reduceBEq, Int.reduceLT, Int.reduceLE, Nat.reduceSub, szl_0, szs_0, szl_1, szs_1, szl_2, szs_2, szl_3, szs_3, szl_4, szs_4, szl_5, szs_5, szl_6, szs_6, szl_7, szs_7, szl_8, szs_8, szl_9, szs_9, szl_10, szs_10, szl_11, szs_11, szl_12, szs_12, gSub_int, gMul_small, gDiv_small, gMod_pos, Hs.d, Hs.size, maxS_1, len2, kR1_2]
  | three p1 p2 p3 q =>
    obtain ⟨_, _, _, hq⟩ := hH
    have hq : q = 1 ∨ q = 2 ∨ q = 3 ∨ q = 4 := by omega
    rcases hq with rfl | rfl | rfl | rfl <;> rcases hn with rfl | rfl | rfl | rfl <;>
      simp (decide := true) only [bind_ok, bind_ex, thenS_ok, thenS_ex, of_some, mC_eq, kVar, mVar_eq, kMove, mMove_eq, kD, mD_eq, kF, mF_eq, kBin2, kBin, mBin_eq, kBinB2, kBinB, mBinB_eq, kB, mB_eq, kT, mT_eq, kChain3, kChainB, kChain2, kChain, mChain_eq, kAnd, mAnd_eq, kOr, mOr_eq, kNot, mNot_eq, kAndV, mAndV_eq, kOrV, mOrV_eq, kNotV, mNotV_eq, kIf, mIf_eq, mNil_eq, kCons2, kCons, mCons_eq, kTupD, mTup_eq, kLst, mLst_eq, kUn, mUn_eq, kFun, mFun_eq, kFunL2, kFunL, mFunL_eq, kCat, mCat_eq, catK2, kStr2, kStr1, mStr1_eq, kSplit2, kSplit, mSplit_eq, mNo_eq, kPart, mPart_eq, kSl3, kSl2, kSl, mSl_eq, mJs_nil, kJs, mJs_cons, kLenS, mLenS_eq, kIxS3, kIxS2, kIxS, mIxS_eq, aNil_eq, kA2, kA, aD_eq, kAS2, kAS, aS_eq, kCall3, kCall2, kCall, mCall_eq, sSkip_eq, sSeq_eq, seq_nx, seq_rt, seq_ex, seq_bk, seq_ct, kRet, sRet_eq, kExpr, sExpr_eq, kIfS, sIf_eq, kSet, sSet_eq, kPar, sPar_eq, opt_some, kAsg, sAsg_eq, kApp3, kApp2, kApp, sApp_eq, kPut4, kPut3, kPut2, kPut1, kPut, sPut_eq, fin_nx, fin_rt, fin_ex, loop_nx, loop_ct, loop_bk, loop_rt, loop_ex, forL_nil, kTurn, forL_cons, kFor, sFor_eq, kWh, kSeq, mSeq_eq, mRange1_eq, mRange2_eq, mYes_eq, lcopt_some, lcout_ok, lcL_nil, kLc3, kLc2, kLc1, lcL_cons, kLcEnd, kLc, mLc_eq, cEq_int, cNe_int, gAdd, gNeg, cI, gInt, gIx, gLen, gAbs, gMax2, gMin2, gTuple, gList, gAll, bls?, gStr, gIsi, D.ty, gN, gTupl, gsCons, gsNil, atI_0, atI_1, atI_2, atI_3, atI_4, atI_5, atI_6, ixN_0, ixN_1, back, lookA, Arg.look, slotsA, modesFrom, outsFrom, restore, wipeR, SV.toD, OC.toD, List.map_cons, List.map_nil, List.replicate_succ, List.replicate_zero, List.cons_append, List.nil_append, List.getElem?_cons_zero, List.getElem?_cons_succ, List.getElem?_nil, List.set_cons_zero, List.set_cons_succ, List.length_cons, List.length_nil, List.length_map, List.nodup_cons, List.nodup_nil, List.not_mem_nil, List.mem_cons, Option.bind_some, Option.map_some, ↓reduceIte, decide_true, decide_false, Bool.not_true, Bool.not_false, and_self, and_true, true_and, not_false_eq_true, not_true_eq_false, or_false, false_or, Bool.false_eq_true, Nat.sub_self, beq_self_eq_true, Int.reduceBEq, Int.reduceLT, Int.reduceLE, Nat.reduceSub, szl_0, szs_0, szl_1, szs_1, szl_2, szs_2, szl_3, szs_3, szl_4, szs_4, szl_5, szs_5, szl_6, szs_6, szl_7, szs_7, szl_8, szs_8, szl_9, szs_9, szl_10, szs_10, szl_11, szs_11, szl_12, szs_12, gSub_int, gMul_small, gDiv_small, gMod_pos, Hs.d, Hs.size, maxS_3, len3, kR1_3]
theorem size_eq {H : Hs} (hH : H.Ok) {n : Int} (h1 : 1 ≤ n) (h2 : n ≤ 4) : m_size_of [.d H.d, .d (.int n)] = .ret (.d (.int (H.size n))) [.d H.d, .d (.int n)] := by
  unfold m_size_of
  refine (mDef_eq rfl).trans ?_
  unfold pk_size_of
  have hn : n = 1 ∨ n = 2 ∨ n = 3 ∨ n = 4 := by omega
  cases H with
  | two p1 p2 g q =>
    obtain ⟨_, _, hg, hq⟩ := hH
    have hg : g = 1 ∨ g = 2 := by omega
    have hq : q = 1 ∨ q = 2 ∨ q = 3 ∨ q = 4 := by omega
    rcases hg with rfl | rfl <;> rcases hq with rfl | rfl | rfl | rfl <;> rcases hn with rfl | rfl | rfl | rfl <;>
      simp (decide := true) only [bind_ok, bind_ex, thenS_ok, thenS_ex, of_some, mC_eq, kVar, mVar_eq, kMove, mMove_eq, kD, mD_eq, kF, mF_eq, kBin2, kBin, mBin_eq, kBinB2, kBinB, mBinB_eq, kB, mB_eq, kT, mT_eq, kChain3, kChainB, kChain2, kChain, mChain_eq, kAnd, mAnd_eq, kOr, mOr_eq, kNot, mNot_eq, kAndV, mAndV_eq, kOrV, mOrV_eq, kNotV, mNotV_eq, kIf, mIf_eq, mNil_eq, kCons2, kCons, mCons_eq, kTupD, mTup_eq, kLst, mLst_eq, kUn, mUn_eq, kFun, mFun_eq, kFunL2, kFunL, mFunL_eq, kCat, mCat_eq, catK2, kStr2, kStr1, mStr1_eq, kSplit2, kSplit, mSplit_eq, mNo_eq, kPart, mPart_eq, kSl3, kSl2, kSl, mSl_eq, mJs_nil, kJs, mJs_cons, kLenS, mLenS_eq, kIxS3, kIxS2, kIxS, mIxS_eq, aNil_eq, kA2, kA, aD_eq, kAS2, kAS, aS_eq, kCall3, kCall2, kCall, mCall_eq, sSkip_eq, sSeq_eq, seq_nx, seq_rt, seq_ex, seq_bk, seq_ct, kRet, sRet_eq, kExpr, sExpr_eq, kIfS, sIf_eq, kSet, sSet_eq, kPar, sPar_eq, opt_some, kAsg, sAsg_eq, kApp3, kApp2, kApp, sApp_eq, kPut4, kPut3, kPut2, kPut1, kPut, sPut_eq, fin_nx, fin_rt, fin_ex, loop_nx, loop_ct, loop_bk, loop_rt, loop_ex, forL_nil, kTurn, forL_cons, kFor, sFor_eq, kWh, kSeq, mSeq_eq, mRange1_eq, mRange2_eq, mYes_eq, lcopt_some, lcout_ok, lcL_nil, kLc3, kLc2, kLc1, lcL_cons, kLcEnd, kLc, mLc_eq, cEq_int, cNe_int, gAdd, gNeg, cI, gInt, gIx, gLen, gAbs, gMax2, gMin2, gTuple, gList, gAll, bls?, gStr, gIsi, D.ty, gN, gTupl, gsCons, gsNil, atI_0, atI_1, atI_2, atI_3, atI_4, atI_5, atI_6, ixN_0, ixN_1, back, lookA, Arg.look, slotsA, modesFrom, outsFrom, restore, wipeR, SV.toD, OC.toD, List.map_cons, List.map_nil, List.replicate_succ, List.replicate_zero, List.cons_append, List.nil_append, List.getElem?_cons_zero, List.getElem?_cons_succ, List.getElem?_nil, List.set_cons_zero, List.set_cons_succ, List.length_cons, List.length_nil, List.length_map, List.nodup_cons, List.nodup_nil, List.not_mem_nil, List.mem_cons, Option.bind_some, Option.map_some, ↓reduceIte, decide_true, decide_false, Bool.not_true, Bool.not_false, and_self, and_true, true_and, not_false_eq_true, not_true_eq_false, or_false, false_or, Bool.false_eq_true, Nat.sub_self, beq_self_eq_true, Int.reduceBEq, Int.reduceLT, Int.reduceLE, Nat.reduceSub, szl_0, szs_0, szl_1, szs_1, szl_2, szs_2, szl_3, szs_3, szl_4, szs_4, szl_5, szs_5, szl_6, szs_6, szl_7, szs_7, szl_8, szs_8, szl_9, szs_9, szl_10, szs_10, szl_11, szs_11, szl_12, szs_12, gSub_int, gMul_small, gDiv_small, gMod_pos, Hs.d, Hs.size, maxT_1, len2]
  | three p1 p2 p3 q =>
    obtain ⟨_, _, _, hq⟩ := hH
    have hq : q = 1 ∨ q = 2 ∨ q = 3 ∨ q = 4 := by omega
    rcases hq with rfl | rfl | rfl | rfl <;> rcases hn with rfl | rfl | rfl | rfl <;>
      simp (decide := true) only [bind_ok, bind_ex, thenS_ok, thenS_ex, of_some, mC_eq, kVar, mVar_eq, kMove, mMove_eq, kD, mD_eq, kF, mF_eq, kBin2, kBin, mBin_eq, kBinB2, kBinB, mBinB_eq, kB, mB_eq, kT, mT_eq, kChain3, kChainB, kChain2, kChain, mChain_eq, kAnd, mAnd_eq, kOr, mOr_eq, kNot, mNot_eq, kAndV, mAndV_eq, kOrV, mOrV_eq, kNotV, mNotV_eq, kIf, mIf_eq, mNil_eq, kCons2, kCons, mCons_eq, kTupD, mTup_eq, kLst, mLst_eq, kUn, mUn_eq, kFun, mFun_eq, kFunL2, kFunL, mFunL_eq, kCat, mCat_eq, catK2, kStr2, kStr1, mStr1_eq, kSplit2, kSplit, mSplit_eq, mNo_eq, kPart, mPart_eq, kSl3, kSl2, kSl, mSl_eq, mJs_nil, kJs, mJs_cons, kLenS, mLenS_eq, kIxS3, kIxS2, kIxS, mIxS_eq, aNil_eq, kA2, kA, aD_eq, kAS2, kAS, aS_eq, kCall3, kCall2, kCall, mCall_eq, sSkip_eq, sSeq_eq, seq_nx, seq_rt, seq_ex, seq_bk, seq_ct, kRet, sRet_eq, kExpr, sExpr_eq, kIfS, sIf_eq, kSet, sSet_eq, kPar, sPar_eq, opt_some, kAsg, sAsg_eq, kApp3, kApp2, kApp, sApp_eq, kPut4, kPut3, kPut2, kPut1, kPut, sPut_eq, fin_nx, fin_rt, fin_ex, loop_nx, loop_ct, loop_bk, loop_rt, loop_ex, forL_nil, kTurn, forL_cons, kFor, sFor_eq, kWh, kSeq, mSeq_eq, mRange1_eq, mRange2_eq, mYes_eq, lcopt_some, lcout_ok, lcL_nil, kLc3, kLc2, kLc1, lcL_cons, kLcEnd, kLc, mLc_eq, cEq_int, cNe_int, gAdd, gNeg, cI, gInt, gIx, gLen, gAbs, gMax2, gMin2, gTuple, gList, gAll, bls?, gStr, gIsi, D.ty, gN, gTupl, gsCons, gsNil, atI_0, atI_1, atI_2, atI_3, atI_4, atI_5, atI_6, ixN_0, ixN_1, back, lookA, Arg.look, slotsA, modesFrom, outsFrom, restore, wipeR, SV.toD, OC.toD, List.map_cons, List.map_nil, List.replicate_succ, List.replicate_zero, List.cons_append, List.nil_append, List.getElem?_cons_zero, List.getElem?_cons_succ, List.getElem?_nil, List.set_cons_zero, List.set_cons_succ, List.length_cons, List.length_nil, List.length_map, List.nodup_cons, List.nodup_nil, List.not_mem_nil, List.mem_cons, Option.bind_some, Option.map_some, ↓reduceIte, decide_true, decide_false, Bool.not_true, Bool.not_false, and_self, and_true, true_and, not_false_eq_true, not_true_eq_false, or_false, false_or, Bool.false_eq_true, Nat.sub_self, beq_self_eq_true, Int.reduceBEq, Int.reduceLT, Int.reduceLE, Nat.reduceSub, szl_0, szs_0, szl_1, szs_1, szl_2, szs_2, szl_3, szs_3, szl_4, szs_4, szl_5, szs_5, szl_6, szs_6, szl_7, szs_7, szl_8, szs_8, szl_9, szs_9, szl_10, szs_10, szl_11, szs_11, szl_12, szs_12, gSub_int, gMul_small, gDiv_small, gMod_pos, Hs.d, Hs.size, maxT_3, len3]
/-! ### integers -/
theorem isint_int {i lo hi : Int} : m_is_int [.d (.int i), .d (.int lo), .d (.int hi)] = .ret (.d (.bl (decide (lo ≤ i) && decide (i ≤ hi)))) [.d (.int i), .d (.int lo), .d (.int hi)] := by
  unfold m_is_int
  refine (mDef_eq rfl).trans ?_
  unfold pk_is_int
  have k1 : kitB "int" "int" = some true := by decide +kernel
  have k2 : kitB "int" "bool" = some false := by decide +kernel
  by_cases h : lo ≤ i
  · simp only [bind_ok, bind_ex, thenS_ok, thenS_ex, of_some, mC_eq, kVar, mVar_eq, kMove, mMove_eq, kD, mD_eq, kF, mF_eq, kBin2, kBin, mBin_eq, kBinB2, kBinB, mBinB_eq, kB, mB_eq, kT, mT_eq, kChain3, kChainB, kChain2, kChain, mChain_eq, kAnd, mAnd_eq, kOr, mOr_eq, kNot, mNot_eq, kAndV, mAndV_eq, kOrV, mOrV_eq, kNotV, mNotV_eq, kIf, mIf_eq, mNil_eq, kCons2, kCons, mCons_eq, kTupD, mTup_eq, kLst, mLst_eq, kUn, mUn_eq, kFun, mFun_eq, kFunL2, kFunL, mFunL_eq, kCat, mCat_eq, catK2, kStr2, kStr1, mStr1_eq, kSplit2, kSplit, mSplit_eq, mNo_eq, kPart, mPart_eq, kSl3, kSl2, kSl, mSl_eq, mJs_nil, kJs, mJs_cons, kLenS, mLenS_eq, kIxS3, kIxS2, kIxS, mIxS_eq, aNil_eq, kA2, kA, aD_eq, kAS2, kAS, aS_eq, kCall3, kCall2, kCall, mCall_eq, sSkip_eq, sSeq_eq, seq_nx, seq_rt, seq_ex, seq_bk, seq_ct, kRet, sRet_eq, kExpr, sExpr_eq, kIfS, sIf_eq, kSet, sSet_eq, kPar, sPar_eq, opt_some, kAsg, sAsg_eq, kApp3, kApp2, kApp, sApp_eq, kPut4, kPut3, kPut2, kPut1, kPut, sPut_eq, fin_nx, fin_rt, fin_ex, loop_nx, loop_ct, loop_bk, loop_rt, loop_ex, forL_nil, kTurn, forL_cons, kFor, sFor_eq, kWh, kSeq, mSeq_eq, mRange1_eq, mRange2_eq, mYes_eq, lcopt_some, lcout_ok, lcL_nil, kLc3, kLc2, kLc1, lcL_cons, kLcEnd, kLc, mLc_eq, cEq_int, cNe_int, gI, gAdd, gNeg, cI, gInt, gIx, gLen, gAbs, gMax2, gMin2, gTuple, gList, gAll, bls?, gStr, gIsi, D.ty, gN, gTupl, gsCons, gsNil, atI_0, atI_1, atI_2, atI_3, atI_4, atI_5, atI_6, ixN_0, ixN_1, back, lookA, Arg.look, slotsA, modesFrom, outsFrom, restore, wipeR, SV.toD, OC.toD, List.map_cons, List.map_nil, List.replicate_succ, List.replicate_zero, List.cons_append, List.nil_append, List.getElem?_cons_zero, List.getElem?_cons_succ, List.getElem?_nil, List.set_cons_zero, List.set_cons_succ, List.length_cons, List.length_nil, List.length_map, List.nodup_cons, List.nodup_nil, List.not_mem_nil, List.mem_cons, Option.bind_some, Option.map_some, ↓reduceIte, decide_true, decide_false, Bool.not_true, Bool.not_false, and_self, and_true, true_and, not_false_eq_true, not_true_eq_false, or_false, false_or, Bool.false_eq_true, Nat.sub_self, beq_self_eq_true, Int.reduceBEq, Int.reduceLT, Int.reduceLE, Nat.reduceSub, szl_0, szs_0, szl_1, szs_1, szl_2, szs_2, szl_3, szs_3, szl_4, szs_4, szl_5, szs_5, szl_6, szs_6, szl_7, szs_7, szl_8, szs_8, szl_9, szs_9, szl_10, szs_10, szl_11, szs_11, szl_12, szs_12, k1, k2, h, Bool.true_and]
  · simp only [bind_ok, bind_ex, thenS_ok, thenS_ex, of_some, mC_eq, kVar, mVar_eq, kMove, mMove_eq, kD, mD_eq, kF, mF_eq, kBin2, kBin, mBin_eq, kBinB2, kBinB, mBinB_eq, kB, mB_eq, kT, mT_eq, kChain3, kChainB, kChain2, kChain, mChain_eq, kAnd, mAnd_eq, kOr, mOr_eq, kNot, mNot_eq, kAndV, mAndV_eq, kOrV, mOrV_eq, kNotV, mNotV_eq, kIf, mIf_eq, mNil_eq, kCons2, kCons, mCons_eq, kTupD, mTup_eq, kLst, mLst_eq, kUn, mUn_eq, kFun, mFun_eq, kFunL2, kFunL, mFunL_eq, kCat, mCat_eq, catK2, kStr2, kStr1, mStr1_eq, kSplit2, kSplit, mSplit_eq, mNo_eq, kPart, mPart_eq, kSl3, kSl2, kSl, mSl_eq, mJs_nil, kJs, mJs_cons, kLenS, mLenS_eq, kIxS3, kIxS2, kIxS, mIxS_eq, aNil_eq, kA2, kA, aD_eq, kAS2, kAS, aS_eq, kCall3, kCall2, kCall, mCall_eq, sSkip_eq, sSeq_eq, seq_nx, seq_rt, seq_ex, seq_bk, seq_ct, kRet, sRet_eq, kExpr, sExpr_eq, kIfS, sIf_eq, kSet, sSet_eq, kPar, sPar_eq, opt_some, kAsg, sAsg_eq, kApp3, kApp2, kApp, sApp_eq, kPut4, kPut3, kPut2, kPut1, kPut, sPut_eq, fin_nx, fin_rt, fin_ex, loop_nx, loop_ct, loop_bk, loop_rt, loop_ex, forL_nil, kTurn, forL_cons, kFor, sFor_eq, kWh, kSeq, mSeq_eq, mRange1_eq, mRange2_eq, mYes_eq, lcopt_some, lcout_ok, lcL_nil, kLc3, kLc2, kLc1, lcL_cons, kLcEnd, kLc, mLc_eq, cEq_int, cNe_int, gI, gAdd, gNeg, cI, gInt, gIx, gLen, gAbs, gMax2, gMin2, gTuple, gList, gAll, bls?, gStr, gIsi, D.ty, gN, gTupl, gsCons, gsNil, atI_0, atI_1, atI_2, atI_3, atI_4, atI_5, atI_6, ixN_0, ixN_1, back, lookA, Arg.look, slotsA, modesFrom, outsFrom, restore, wipeR, SV.toD, OC.toD, List.map_cons, List.map_nil, List.replicate_succ, List.replicate_zero, List.cons_append, List.nil_append, List.getElem?_cons_zero, List.getElem?_cons_succ, List.getElem?_nil, List.set_cons_zero, List.set_cons_succ, List.length_cons, List.length_nil, List.length_map, List.nodup_cons, List.nodup_nil, List.not_mem_nil, List.mem_cons, Option.bind_some, Option.map_some, ↓reduceIte, decide_true, decide_false, Bool.not_true, Bool.not_false, and_self, and_true, true_and, not_false_eq_true, not_true_eq_false, or_false, false_or, Bool.false_eq_true, Nat.sub_self, beq_self_eq_true, Int.reduceBEq, Int.reduceLT, Int.reduceLE, Nat.reduceSub, szl_0, szs_0, szl_1, szs_1, szl_2, szs_2, szl_3, szs_3, szl_4, szs_4, szl_5, szs_5, szl_6, szs_6, szl_7, szs_7, szl_8, szs_8, szl_9, szs_9, szl_10, szs_10, szl_11, szs_11, szl_12, szs_12, k1, k2, h, Bool.false_and]
theorem isint_non {lo hi : Int} : m_is_int [.d .non, .d (.int lo), .d (.int hi)] = .ret (.d (.bl false)) [.d .non, .d (.int lo), .d (.int hi)] := by
  unfold m_is_int
  refine (mDef_eq (nP := 3) (by rfl)).trans ?_
  unfold pk_is_int
  have k1 : kitB "NoneType" "int" = some false := by decide +kernel
  simp only [bind_ok, bind_ex, thenS_ok, thenS_ex, of_some, mC_eq, kVar, mVar_eq, kMove, mMove_eq, kD, mD_eq, kF, mF_eq, kBin2, kBin, mBin_eq, kBinB2, kBinB, mBinB_eq, kB, mB_eq, kT, mT_eq, kChain3, kChainB, kChain2, kChain, mChain_eq, kAnd, mAnd_eq, kOr, mOr_eq, kNot, mNot_eq, kAndV, mAndV_eq, kOrV, mOrV_eq, kNotV, mNotV_eq, kIf, mIf_eq, mNil_eq, kCons2, kCons, mCons_eq, kTupD, mTup_eq, kLst, mLst_eq, kUn, mUn_eq, kFun, mFun_eq, kFunL2, kFunL, mFunL_eq, kCat, mCat_eq, catK2, kStr2, kStr1, mStr1_eq, kSplit2, kSplit, mSplit_eq, mNo_eq, kPart, mPart_eq, kSl3, kSl2, kSl, mSl_eq, mJs_nil, kJs, mJs_cons, kLenS, mLenS_eq, kIxS3, kIxS2, kIxS, mIxS_eq, aNil_eq, kA2, kA, aD_eq, kAS2, kAS, aS_eq, kCall3, kCall2, kCall, mCall_eq, sSkip_eq, sSeq_eq, seq_nx, seq_rt, seq_ex, seq_bk, seq_ct, kRet, sRet_eq, kExpr, sExpr_eq, kIfS, sIf_eq, kSet, sSet_eq, kPar, sPar_eq, opt_some, kAsg, sAsg_eq, kApp3, kApp2, kApp, sApp_eq, kPut4, kPut3, kPut2, kPut1, kPut, sPut_eq, fin_nx, fin_rt, fin_ex, loop_nx, loop_ct, loop_bk, loop_rt, loop_ex, forL_nil, kTurn, forL_cons, kFor, sFor_eq, kWh, kSeq, mSeq_eq, mRange1_eq, mRange2_eq, mYes_eq, lcopt_some, lcout_ok, lcL_nil, kLc3, kLc2, kLc1, lcL_cons, kLcEnd, kLc, mLc_eq, cEq_int, cNe_int, gI, gAdd, gNeg, cI, gInt, gIx, gLen, gAbs, gMax2, gMin2, gTuple, gList, gAll, bls?, gStr, gIsi, D.ty, gN, gTupl, gsCons, gsNil, atI_0, atI_1, atI_2, atI_3, atI_4, atI_5, atI_6, ixN_0, ixN_1, back, lookA, Arg.look, slotsA, modesFrom, outsFrom, restore, wipeR, SV.toD, OC.toD, List.map_cons, List.map_nil, List.replicate_succ, List.replicate_zero, List.cons_append, List.nil_append, List.getElem?_cons_zero, List.getElem?_cons_succ, List.getElem?_nil, List.set_cons_zero, List.set_cons_succ, List.length_cons, List.length_nil, List.length_map, List.nodup_cons, List.nodup_nil, List.not_mem_nil, List.mem_cons, Option.bind_some, Option.map_some, ↓reduceIte, decide_true, decide_false, Bool.not_true, Bool.not_false, and_self, and_true, true_and, not_false_eq_true, not_true_eq_false, or_false, false_or, Bool.false_eq_true, Nat.sub_self, beq_self_eq_true, Int.reduceBEq, Int.reduceLT, Int.reduceLE, Nat.reduceSub, szl_0, szs_0, szl_1, szs_1, szl_2, szs_2, szl_3, szs_3, szl_4, szs_4, szl_5, szs_5, szl_6, szs_6, szl_7, szs_7, szl_8, szs_8, szl_9, szs_9, szl_10, szs_10, szl_11, szs_11, szl_12, szs_12, k1]
def inside (lo hi : Int) (ns : List Int) : Bool := ns.all fun i => decide (lo ≤ i) && decide (i ≤ hi)
theorem areints {ns : List Int} {k lo hi : Int} (hl : ns.length < 1000) : m_are_ints [.d (.tup (ns.map D.int)), .d (.int k), .d (.int lo), .d (.int hi)] = .ret (.d (.bl ((ns.length : Int) == k && inside lo hi ns))) [.d (.tup (ns.map D.int)), .d (.int k), .d (.int lo), .d (.int hi)] := by
  unfold m_are_ints
  refine (mDef_eq rfl).trans ?_
  unfold pk_are_ints
  have k1 : kitB "tuple" "tuple" = some true := by decide +kernel
  by_cases h : (ns.length : Int) == k
  · simp only [bind_ok, bind_ex, thenS_ok, thenS_ex, of_some, mC_eq, kVar, mVar_eq, kMove, mMove_eq, kD, mD_eq, kF, mF_eq, kBin2, kBin, mBin_eq, kBinB2, kBinB, mBinB_eq, kB, mB_eq, kT, mT_eq, kChain3, kChainB, kChain2, kChain, mChain_eq, kAnd, mAnd_eq, kOr, mOr_eq, kNot, mNot_eq, kAndV, mAndV_eq, kOrV, mOrV_eq, kNotV, mNotV_eq, kIf, mIf_eq, mNil_eq, kCons2, kCons, mCons_eq, kTupD, mTup_eq, kLst, mLst_eq, kUn, mUn_eq, kFun, mFun_eq, kFunL2, kFunL, mFunL_eq, kCat, mCat_eq, catK2, kStr2, kStr1, mStr1_eq, kSplit2, kSplit, mSplit_eq, mNo_eq, kPart, mPart_eq, kSl3, kSl2, kSl, mSl_eq, mJs_nil, kJs, mJs_cons, kLenS, mLenS_eq, kIxS3, kIxS2, kIxS, mIxS_eq, aNil_eq, kA2, kA, aD_eq, kAS2, kAS, aS_eq, kCall3, kCall2, kCall, mCall_eq, sSkip_eq, sSeq_eq, seq_nx, seq_rt, seq_ex, seq_bk, seq_ct, kRet, sRet_eq, kExpr, sExpr_eq, kIfS, sIf_eq, kSet, sSet_eq, kPar, sPar_eq, opt_some, kAsg, sAsg_eq, kApp3, kApp2, kApp, sApp_eq, kPut4, kPut3, kPut2, kPut1, kPut, sPut_eq, fin_nx, fin_rt, fin_ex, loop_nx, loop_ct, loop_bk, loop_rt, loop_ex, forL_nil, kTurn, forL_cons, kFor, sFor_eq, kWh, kSeq, mSeq_eq, mRange1_eq, mRange2_eq, mYes_eq, lcopt_some, lcout_ok, lcL_nil, kLc3, kLc2, kLc1, lcL_cons, kLcEnd, kLc, mLc_eq, cEq_int, cNe_int, gI, gAdd, gNeg, cI, gInt, gIx, gLen, gAbs, gMax2, gMin2, gTuple, gList, gAll, bls?, gStr, gIsi, D.ty, gN, gTupl, gsCons, gsNil, atI_0, atI_1, atI_2, atI_3, atI_4, atI_5, atI_6, ixN_0, ixN_1, back, lookA, Arg.look, slotsA, modesFrom, outsFrom, restore, wipeR, SV.toD, OC.toD, List.map_cons, List.map_nil, List.replicate_succ, List.replicate_zero, List.cons_append, List.nil_append, List.getElem?_cons_zero, List.getElem?_cons_succ, List.getElem?_nil, List.set_cons_zero, List.set_cons_succ, List.length_cons, List.length_nil, List.length_map, List.nodup_cons, List.nodup_nil, List.not_mem_nil, List.mem_cons, Option.bind_some, Option.map_some, ↓reduceIte, decide_true, decide_false, Bool.not_true, Bool.not_false, and_self, and_true, true_and, not_false_eq_true, not_true_eq_false, or_false, false_or, Bool.false_eq_true, Nat.sub_self, beq_self_eq_true, Int.reduceBEq, Int.reduceLT, Int.reduceLE, Nat.reduceSub, szl_0, szs_0, szl_1, szs_1, szl_2, szs_2, szl_3, szs_3, szl_4, szs_4, szl_5, szs_5, szl_6, szs_6, szl_7, szs_7, szl_8, szs_8, szl_9, szs_9, szl_10, szs_10, szl_11, szs_11, szl_12, szs_12, k1, h, Bool.true_and]
    rw [lcL_map (fun d => match d with
      | .int i => .bl (decide (lo ≤ i) && decide (i ≤ hi))
      | d => d) _ _ (fun d hd => ?_) (by simp only [List.length_nil, List.length_map]; show _ ≤ 2 ^ 24; omega)]
    · have e : (ns.map D.int).map (fun d => match d with
        | .int i => .bl (decide (lo ≤ i) && decide (i ≤ hi))
        | d => d) = (ns.map fun i => decide (lo ≤ i) && decide (i ≤ hi)).map D.bl := by
        rw [List.map_map, List.map_map]; rfl
      rw [e]
      have e2 : (ns.map fun i => decide (lo ≤ i) && decide (i ≤ hi)).all id = inside lo hi ns := by rw [List.all_map]; rfl
      simp only [bind_ok, bind_ex, thenS_ok, thenS_ex, of_some, mC_eq, kVar, mVar_eq, kMove, mMove_eq, kD, mD_eq, kF, mF_eq, kBin2, kBin, mBin_eq, kBinB2, kBinB, mBinB_eq, kB, mB_eq, kT, mT_eq, kChain3, kChainB, kChain2, kChain, mChain_eq, kAnd, mAnd_eq, kOr, mOr_eq, kNot, mNot_eq, kAndV, mAndV_eq, kOrV, mOrV_eq, kNotV, mNotV_eq, kIf, mIf_eq, mNil_eq, kCons2, kCons, mCons_eq, kTupD, mTup_eq, kLst, mLst_eq, kUn, mUn_eq, kFun, mFun_eq, kFunL2, kFunL, mFunL_eq, kCat, mCat_eq, catK2, kStr2, kStr1, mStr1_eq, kSplit2, kSplit, mSplit_eq, mNo_eq, kPart, mPart_eq, kSl3, kSl2, kSl, mSl_eq, mJs_nil, kJs, mJs_cons, kLenS, mLenS_eq, kIxS3, kIxS2, kIxS, mIxS_eq, aNil_eq, kA2, kA, aD_eq, kAS2, kAS, aS_eq, kCall3, kCall2, kCall, mCall_eq, sSkip_eq, sSeq_eq, seq_nx, seq_rt, seq_ex, seq_bk, seq_ct, kRet, sRet_eq, kExpr, sExpr_eq, kIfS, sIf_eq, kSet, sSet_eq, kPar, sPar_eq, opt_some, kAsg, sAsg_eq, kApp3, kApp2, kApp, sApp_eq, kPut4, kPut3, kPut2, kPut1, kPut, sPut_eq, fin_nx, fin_rt, fin_ex, loop_nx, loop_ct, loop_bk, loop_rt, loop_ex, forL_nil, kTurn, forL_cons, kFor, sFor_eq, kWh, kSeq, mSeq_eq, mRange1_eq, mRange2_eq, mYes_eq, lcopt_some, lcout_ok, lcL_nil, kLc3, kLc2, kLc1, lcL_cons, kLcEnd, kLc, mLc_eq, cEq_int, cNe_int, gI, gAdd, gNeg, cI, gInt, gIx, gLen, gAbs, gMax2, gMin2, gTuple, gList, gAll, bls?, gStr, gIsi, D.ty, gN, gTupl, gsCons, gsNil, atI_0, atI_1, atI_2, atI_3, atI_4, atI_5, atI_6, ixN_0, ixN_1, back, lookA, Arg.look, slotsA, modesFrom, outsFrom, restore, wipeR, SV.toD, OC.toD, List.map_cons, List.map_nil, List.replicate_succ, List.replicate_zero, List.cons_append, List.nil_append, List.getElem?_cons_zero, List.getElem?_cons_succ, List.getElem?_nil, List.set_cons_zero, List.set_cons_succ, List.length_cons, List.length_nil, List.length_map, List.nodup_cons, List.nodup_nil, List.not_mem_nil, List.mem_cons, Option.bind_some, Option.map_some, ↓reduceIte, decide_true, decide_false, Bool.not_true, Bool.not_false, and_self, and_true, true_and, not_false_eq_true, not_true_eq_false, or_false, false_or, Bool.false_eq_true, Nat.sub_self, beq_self_eq_true, Int.reduceBEq, Int.reduceLT, Int.reduceLE, Nat.reduceSub, szl_0, szs_0, szl_1, szs_1, szl_2, szs_2, szl_3, szs_3, szl_4, szs_4, szl_5, szs_5, szl_6, szs_6, szl_7, szs_7, szl_8, szs_8, szl_9, szs_9, szl_10, szs_10, szl_11, szs_11, szl_12, szs_12, bls?_map, e2]
    · obtain ⟨i, _, rfl⟩ := List.mem_map.mp hd
      refine ⟨_, rfl, rfl, ?_, rfl⟩
      simp only [bind_ok, bind_ex, thenS_ok, thenS_ex, of_some, mC_eq, kVar, mVar_eq, kMove, mMove_eq, kD, mD_eq, kF, mF_eq, kBin2, kBin, mBin_eq, kBinB2, kBinB, mBinB_eq, kB, mB_eq, kT, mT_eq, kChain3, kChainB, kChain2, kChain, mChain_eq, kAnd, mAnd_eq, kOr, mOr_eq, kNot, mNot_eq, kAndV, mAndV_eq, kOrV, mOrV_eq, kNotV, mNotV_eq, kIf, mIf_eq, mNil_eq, kCons2, kCons, mCons_eq, kTupD, mTup_eq, kLst, mLst_eq, kUn, mUn_eq, kFun, mFun_eq, kFunL2, kFunL, mFunL_eq, kCat, mCat_eq, catK2, kStr2, kStr1, mStr1_eq, kSplit2, kSplit, mSplit_eq, mNo_eq, kPart, mPart_eq, kSl3, kSl2, kSl, mSl_eq, mJs_nil, kJs, mJs_cons, kLenS, mLenS_eq, kIxS3, kIxS2, kIxS, mIxS_eq, aNil_eq, kA2, kA, aD_eq, kAS2, kAS, aS_eq, kCall3, kCall2, kCall, mCall_eq, sSkip_eq, sSeq_eq, seq_nx, seq_rt, seq_ex, seq_bk, seq_ct, kRet, sRet_eq, kExpr, sExpr_eq, kIfS, sIf_eq, kSet, sSet_eq, kPar, sPar_eq, opt_some, kAsg, sAsg_eq, kApp3, kApp2, kApp, sApp_eq, kPut4, kPut3, kPut2, kPut1, kPut, sPut_eq, fin_nx, fin_rt, fin_ex, loop_nx, loop_ct, loop_bk, loop_rt, loop_ex, forL_nil, kTurn, forL_cons, kFor, sFor_eq, kWh, kSeq, mSeq_eq, mRange1_eq, mRange2_eq, mYes_eq, lcopt_some, lcout_ok, lcL_nil, kLc3, kLc2, kLc1, lcL_cons, kLcEnd, kLc, mLc_eq, cEq_int, cNe_int, gI, gAdd, gNeg, cI, gInt, gIx, gLen, gAbs, gMax2, gMin2, gTuple, gList, gAll, bls?, gStr, gIsi, D.ty, gN, gTupl, gsCons, gsNil, atI_0, atI_1, atI_2, atI_3, atI_4, atI_5, atI_6, ixN_0, ixN_1, back, lookA, Arg.look, slotsA, modesFrom, outsFrom, restore, wipeR, SV.toD, OC.toD, List.map_cons, List.map_nil, List.replicate_succ, List.replicate_zero, List.cons_append, List.nil_append, List.getElem?_cons_zero, List.getElem?_cons_succ, List.getElem?_nil, List.set_cons_zero, List.set_cons_succ, List.length_cons, List.length_nil, List.length_map, List.nodup_cons, List.nodup_nil, List.not_mem_nil, List.mem_cons, Option.bind_some, Option.map_some, ↓reduceIte, decide_true, decide_false, Bool.not_true, Bool.not_false, and_self, and_true, true_and, not_false_eq_true, not_true_eq_false, or_false, false_or, Bool.false_eq_true, Nat.sub_self, beq_self_eq_true, Int.reduceBEq, Int.reduceLT, Int.reduceLE, Nat.reduceSub, szl_0, szs_0, szl_1, szs_1, szl_2, szs_2, szl_3, szs_3, szl_4, szs_4, szl_5, szs_5, szl_6, szs_6, szl_7, szs_7, szl_8, szs_8, szl_9, szs_9, szl_10, szs_10, szl_11, szs_11, szl_12, szs_12, isint_int]
  · simp only [bind_ok, bind_ex, thenS_ok, thenS_ex, of_some, mC_eq, kVar, mVar_eq, kMove, mMove_eq, kD, mD_eq, kF, mF_eq, kBin2, kBin, mBin_eq, kBinB2, kBinB, mBinB_eq, kB, mB_eq, kT, mT_eq, kChain3, kChainB, kChain2, kChain, mChain_eq, kAnd, mAnd_eq, kOr, mOr_eq, kNot, mNot_eq, kAndV, mAndV_eq, kOrV, mOrV_eq, kNotV, mNotV_eq, kIf, mIf_eq, mNil_eq, kCons2, kCons, mCons_eq, kTupD, mTup_eq, kLst, mLst_eq, kUn, mUn_eq, kFun, mFun_eq, kFunL2, kFunL, mFunL_eq, kCat, mCat_eq, catK2, kStr2, kStr1, mStr1_eq, kSplit2, kSplit, mSplit_eq, mNo_eq, kPart, mPart_eq, kSl3, kSl2, kSl, mSl_eq, mJs_nil, kJs, mJs_cons, kLenS, mLenS_eq, kIxS3, kIxS2, kIxS, mIxS_eq, aNil_eq, kA2, kA, aD_eq, kAS2, kAS, aS_eq, kCall3, kCall2, kCall, mCall_eq, sSkip_eq, sSeq_eq, seq_nx, seq_rt, seq_ex, seq_bk, seq_ct, kRet, sRet_eq, kExpr, sExpr_eq, kIfS, sIf_eq, kSet, sSet_eq, kPar, sPar_eq, opt_some, kAsg, sAsg_eq, kApp3, kApp2, kApp, sApp_eq, kPut4, kPut3, kPut2, kPut1, kPut, sPut_eq, fin_nx, fin_rt, fin_ex, loop_nx, loop_ct, loop_bk, loop_rt, loop_ex, forL_nil, kTurn, forL_cons, kFor, sFor_eq, kWh, kSeq, mSeq_eq, mRange1_eq, mRange2_eq, mYes_eq, lcopt_some, lcout_ok, lcL_nil, kLc3, kLc2, kLc1, lcL_cons, kLcEnd, kLc, mLc_eq, cEq_int, cNe_int, gI, gAdd, gNeg, cI, gInt, gIx, gLen, gAbs, gMax2, gMin2, gTuple, gList, gAll, bls?, gStr, gIsi, D.ty, gN, gTupl, gsCons, gsNil, atI_0, atI_1, atI_2, atI_3, atI_4, atI_5, atI_6, ixN_0, ixN_1, back, lookA, Arg.look, slotsA, modesFrom, outsFrom, restore, wipeR, SV.toD, OC.toD, List.map_cons, List.map_nil, List.replicate_succ, List.replicate_zero, List.cons_append, List.nil_append, List.getElem?_cons_zero, List.getElem?_cons_succ, List.getElem?_nil, List.set_cons_zero, List.set_cons_succ, List.length_cons, List.length_nil, List.length_map, List.nodup_cons, List.nodup_nil, List.not_mem_nil, List.mem_cons, Option.bind_some, Option.map_some, ↓reduceIte, decide_true, decide_false, Bool.not_true, Bool.not_false, and_self, and_true, true_and, not_false_eq_true, not_true_eq_false, or_false, false_or, Bool.false_eq_true, Nat.sub_self, beq_self_eq_true, Int.reduceBEq, Int.reduceLT, Int.reduceLE, Nat.reduceSub, szl_0, szs_0, szl_1, szs_1, szl_2, szs_2, szl_3, szs_3, szl_4, szs_4, szl_5, szs_5, szl_6, szs_6, szl_7, szs_7, szl_8, szs_8, szl_9, szs_9, szl_10, szs_10, szl_11, szs_11, szl_12, szs_12, k1, h, Bool.false_and]
end Lw
namespace Lw
open PySem PySem.Spec PyProof.Rows L2 L2H DL DH HotX LamX
theorem areints1 {a k lo hi : Int} : m_are_ints [.d (.tup [.int a]), .d (.int k), .d (.int lo), .d (.int hi)] = .ret (.d (.bl ((1 : Int) == k && inside lo hi [a]))) [.d (.tup [.int a]), .d (.int k), .d (.int lo), .d (.int hi)] := areints (ns := [a]) (by show 1 < 1000; decide)
theorem areints2 {a b k lo hi : Int} : m_are_ints [.d (.tup [.int a, .int b]), .d (.int k), .d (.int lo), .d (.int hi)] = .ret (.d (.bl ((2 : Int) == k && inside lo hi [a, b]))) [.d (.tup [.int a, .int b]), .d (.int k), .d (.int lo), .d (.int hi)] := areints (ns := [a, b]) (by show 2 < 1000; decide)
theorem areints3 {a b c k lo hi : Int} : m_are_ints [.d (.tup [.int a, .int b, .int c]), .d (.int k), .d (.int lo), .d (.int hi)] = .ret (.d (.bl ((3 : Int) == k && inside lo hi [a, b, c]))) [.d (.tup [.int a, .int b, .int c]), .d (.int k), .d (.int lo), .d (.int hi)] := areints (ns := [a, b, c]) (by show 3 < 1000; decide)
theorem inside1 {lo hi a : Int} (h : lo ≤ a ∧ a ≤ hi) : inside lo hi [a] = true := by simp [inside, h.1, h.2]
theorem inside2 {lo hi a b : Int} (h : lo ≤ a ∧ a ≤ hi) (h' : lo ≤ b ∧ b ≤ hi) : inside lo hi [a, b] = true := by simp [inside, h.1, h.2, h'.1, h'.2]
theorem inside3 {lo hi a b c : Int} (h : lo ≤ a ∧ a ≤ hi) (h' : lo ≤ b ∧ b ≤ hi) (h'' : lo ≤ c ∧ c ≤ hi) : inside lo hi [a, b, c] = true := by simp [inside, h.1, h.2, h'.1, h'.2, h''.1, h''.2]
theorem kt_tuple : kitB "tuple" "tuple" = some true := by decide +kernel
theorem kt_list : kitB "list" "tuple" = some false := by decide +kernel
theorem kt_non : kitB "NoneType" "tuple" = some false := by decide +kernel
theorem ks_str : kitB "str" "str" = some true := by decide +kernel
theorem ishouse_eq {H : Hs} (hH : H.Ok) : m_is_house [.d H.d] = .ret (.d (.bl true)) [.d H.d] := by
  unfold m_is_house
  refine (mDef_eq (nP := 1) (by rfl)).trans ?_
  unfold pk_is_house
  cases H with
  | two p1 p2 g q =>
    obtain ⟨h1, h2, h3, h4⟩ := hH
    simp (decide := true) only [bind_ok, bind_ex, thenS_ok, thenS_ex, of_some, mC_eq, kVar, mVar_eq, kMove, mMove_eq, kD, mD_eq, kF, mF_eq, kBin2, kBin, mBin_eq, kBinB2, kBinB, mBinB_eq, kB, mB_eq, kT, mT_eq, kChain3, kChainB, kChain2, kChain, mChain_eq, kAnd, mAnd_eq, kOr, mOr_eq, kNot, mNot_eq, kAndV, mAndV_eq, kOrV, mOrV_eq, kNotV, mNotV_eq, kIf, mIf_eq, mNil_eq, kCons2, kCons, mCons_eq, kTupD, mTup_eq, kLst, mLst_eq, kUn, mUn_eq, kFun, mFun_eq, kFunL2, kFunL, mFunL_eq, kCat, mCat_eq, catK2, kStr2, kStr1, mStr1_eq, kSplit2, kSplit, mSplit_eq, mNo_eq, kPart, mPart_eq, kSl3, kSl2, kSl, mSl_eq, mJs_nil, kJs, mJs_cons, kLenS, mLenS_eq, kIxS3, kIxS2, kIxS, mIxS_eq, aNil_eq, kA2, kA, aD_eq, kAS2, kAS, aS_eq, kCall3, kCall2, kCall, mCall_eq, sSkip_eq, sSeq_eq, seq_nx, seq_rt, seq_ex, seq_bk, seq_ct, kRet, sRet_eq, kExpr, sExpr_eq, kIfS, sIf_eq, kSet, sSet_eq, kPar, sPar_eq, opt_some, kAsg, sAsg_eq, kApp3, kApp2, kApp, sApp_eq, kPut4, kPut3, kPut2, kPut1, kPut, sPut_eq, fin_nx, fin_rt, fin_ex, loop_nx, loop_ct, loop_bk, loop_rt, loop_ex, forL_nil, kTurn, forL_cons, kFor, sFor_eq, kWh, kSeq, mSeq_eq, mRange1_eq, mRange2_eq, mYes_eq, lcopt_some, lcout_ok, lcL_nil, kLc3, kLc2, kLc1, lcL_cons, kLcEnd, kLc, mLc_eq, cEq_int, cNe_int, gAdd, gNeg, cI, gInt, gIx, gLen, gAbs, gMax2, gMin2, gTuple, gList, gAll, bls?, gStr, gIsi, D.ty, gN, gTupl, gsCons, gsNil, atI_0, atI_1, atI_2, atI_3, atI_4, atI_5, atI_6, ixN_0, ixN_1, back, lookA, Arg.look, slotsA, modesFrom, outsFrom, restore, wipeR, SV.toD, OC.toD, List.map_cons, List.map_nil, List.replicate_succ, List.replicate_zero, List.cons_append, List.nil_append, List.getElem?_cons_zero, List.getElem?_cons_succ, List.getElem?_nil, List.set_cons_zero, List.set_cons_succ, List.length_cons, List.length_nil, List.length_map, List.nodup_cons, List.nodup_nil, List.not_mem_nil, List.mem_cons, Option.bind_some, Option.map_some, ↓reduceIte, decide_true, decide_false, Bool.not_true, Bool.not_false, and_self, and_true, true_and, not_false_eq_true, not_true_eq_false, or_false, false_or, Bool.false_eq_true, Nat.sub_self, beq_self_eq_true, Int.reduceBEq, Int.reduceLT, Int.reduceLE, Nat.reduceSub, szl_0, szs_0, szl_1, szs_1, szl_2, szs_2, szl_3, szs_3, szl_4, szs_4, szl_5, szs_5, szl_6, szs_6, szl_7, szs_7, szl_8, szs_8, szl_9, szs_9, szl_10, szs_10, szl_11, szs_11, szl_12, szs_12, gSub_int, gMul_small, gDiv_small, gMod_pos, Hs.d, kt_tuple, isint_int, areints2, areints1, h4.1, h4.2, inside2 h1 h2, inside1 h3, len2, len3, Bool.true_and, Bool.and_true, Bool.not_false]
  | three p1 p2 p3 q =>
    obtain ⟨h1, h2, h3, h4⟩ := hH
    have i3 : inside 1 2 [1, 1, 1] = true := by decide
    simp (decide := true) only [bind_ok, bind_ex, thenS_ok, thenS_ex, of_some, mC_eq, kVar, mVar_eq, kMove, mMove_eq, kD, mD_eq, kF, mF_eq, kBin2, kBin, mBin_eq, kBinB2, kBinB, mBinB_eq, kB, mB_eq, kT, mT_eq, kChain3, kChainB, kChain2, kChain, mChain_eq, kAnd, mAnd_eq, kOr, mOr_eq, kNot, mNot_eq, kAndV, mAndV_eq, kOrV, mOrV_eq, kNotV, mNotV_eq, kIf, mIf_eq, mNil_eq, kCons2, kCons, mCons_eq, kTupD, mTup_eq, kLst, mLst_eq, kUn, mUn_eq, kFun, mFun_eq, kFunL2, kFunL, mFunL_eq, kCat, mCat_eq, catK2, kStr2, kStr1, mStr1_eq, kSplit2, kSplit, mSplit_eq, mNo_eq, kPart, mPart_eq, kSl3, kSl2, kSl, mSl_eq, mJs_nil, kJs, mJs_cons, kLenS, mLenS_eq, kIxS3, kIxS2, kIxS, mIxS_eq, aNil_eq, kA2, kA, aD_eq, kAS2, kAS, aS_eq, kCall3, kCall2, kCall, mCall_eq, sSkip_eq, sSeq_eq, seq_nx, seq_rt, seq_ex, seq_bk, seq_ct, kRet, sRet_eq, kExpr, sExpr_eq, kIfS, sIf_eq, kSet, sSet_eq, kPar, sPar_eq, opt_some, kAsg, sAsg_eq, kApp3, kApp2, kApp, sApp_eq, kPut4, kPut3, kPut2, kPut1, kPut, sPut_eq, fin_nx, fin_rt, fin_ex, loop_nx, loop_ct, loop_bk, loop_rt, loop_ex, forL_nil, kTurn, forL_cons, kFor, sFor_eq, kWh, kSeq, mSeq_eq, mRange1_eq, mRange2_eq, mYes_eq, lcopt_some, lcout_ok, lcL_nil, kLc3, kLc2, kLc1, lcL_cons, kLcEnd, kLc, mLc_eq, cEq_int, cNe_int, gAdd, gNeg, cI, gInt, gIx, gLen, gAbs, gMax2, gMin2, gTuple, gList, gAll, bls?, gStr, gIsi, D.ty, gN, gTupl, gsCons, gsNil, atI_0, atI_1, atI_2, atI_3, atI_4, atI_5, atI_6, ixN_0, ixN_1, back, lookA, Arg.look, slotsA, modesFrom, outsFrom, restore, wipeR, SV.toD, OC.toD, List.map_cons, List.map_nil, List.replicate_succ, List.replicate_zero, List.cons_append, List.nil_append, List.getElem?_cons_zero, List.getElem?_cons_succ, List.getElem?_nil, List.set_cons_zero, List.set_cons_succ, List.length_cons, List.length_nil, List.length_map, List.nodup_cons, List.nodup_nil, List.not_mem_nil, List.mem_cons, Option.bind_some, Option.map_some, ↓reduceIte, decide_true, decide_false, Bool.not_true, Bool.not_false, and_self, and_true, true_and, not_false_eq_true, not_true_eq_false, or_false, false_or, Bool.false_eq_true, Nat.sub_self, beq_self_eq_true, Int.reduceBEq, Int.reduceLT, Int.reduceLE, Nat.reduceSub, szl_0, szs_0, szl_1, szs_1, szl_2, szs_2, szl_3, szs_3, szl_4, szs_4, szl_5, szs_5, szl_6, szs_6, szl_7, szs_7, szl_8, szs_8, szl_9, szs_9, szl_10, szs_10, szl_11, szs_11, szl_12, szs_12, gSub_int, gMul_small, gDiv_small, gMod_pos, Hs.d, kt_tuple, isint_int, areints3, h4.1, h4.2, inside3 h1 h2 h3, i3, len2, len3, Bool.true_and, Bool.and_true, Bool.not_false, Bool.false_and]
theorem ishouse_non : m_is_house [.d .non] = .ret (.d (.bl false)) [.d .non] := by
  unfold m_is_house
  refine (mDef_eq (nP := 1) (by rfl)).trans ?_
  unfold pk_is_house
  simp only [bind_ok, bind_ex, thenS_ok, thenS_ex, of_some, mC_eq, kVar, mVar_eq, kMove, mMove_eq, kD, mD_eq, kF, mF_eq, kBin2, kBin, mBin_eq, kBinB2, kBinB, mBinB_eq, kB, mB_eq, kT, mT_eq, kChain3, kChainB, kChain2, kChain, mChain_eq, kAnd, mAnd_eq, kOr, mOr_eq, kNot, mNot_eq, kAndV, mAndV_eq, kOrV, mOrV_eq, kNotV, mNotV_eq, kIf, mIf_eq, mNil_eq, kCons2, kCons, mCons_eq, kTupD, mTup_eq, kLst, mLst_eq, kUn, mUn_eq, kFun, mFun_eq, kFunL2, kFunL, mFunL_eq, kCat, mCat_eq, catK2, kStr2, kStr1, mStr1_eq, kSplit2, kSplit, mSplit_eq, mNo_eq, kPart, mPart_eq, kSl3, kSl2, kSl, mSl_eq, mJs_nil, kJs, mJs_cons, kLenS, mLenS_eq, kIxS3, kIxS2, kIxS, mIxS_eq, aNil_eq, kA2, kA, aD_eq, kAS2, kAS, aS_eq, kCall3, kCall2, kCall, mCall_eq, sSkip_eq, sSeq_eq, seq_nx, seq_rt, seq_ex, seq_bk, seq_ct, kRet, sRet_eq, kExpr, sExpr_eq, kIfS, sIf_eq, kSet, sSet_eq, kPar, sPar_eq, opt_some, kAsg, sAsg_eq, kApp3, kApp2, kApp, sApp_eq, kPut4, kPut3, kPut2, kPut1, kPut, sPut_eq, fin_nx, fin_rt, fin_ex, loop_nx, loop_ct, loop_bk, loop_rt, loop_ex, forL_nil, kTurn, forL_cons, kFor, sFor_eq, kWh, kSeq, mSeq_eq, mRange1_eq, mRange2_eq, mYes_eq, lcopt_some, lcout_ok, lcL_nil, kLc3, kLc2, kLc1, lcL_cons, kLcEnd, kLc, mLc_eq, cEq_int, cNe_int, gAdd, gNeg, cI, gInt, gIx, gLen, gAbs, gMax2, gMin2, gTuple, gList, gAll, bls?, gStr, gIsi, D.ty, gN, gTupl, gsCons, gsNil, atI_0, atI_1, atI_2, atI_3, atI_4, atI_5, atI_6, ixN_0, ixN_1, back, lookA, Arg.look, slotsA, modesFrom, outsFrom, restore, wipeR, SV.toD, OC.toD, List.map_cons, List.map_nil, List.replicate_succ, List.replicate_zero, List.cons_append, List.nil_append, List.getElem?_cons_zero, List.getElem?_cons_succ, List.getElem?_nil, List.set_cons_zero, List.set_cons_succ, List.length_cons, List.length_nil, List.length_map, List.nodup_cons, List.nodup_nil, List.not_mem_nil, List.mem_cons, Option.bind_some, Option.map_some, ↓reduceIte, decide_true, decide_false, Bool.not_true, Bool.not_false, and_self, and_true, true_and, not_false_eq_true, not_true_eq_false, or_false, false_or, Bool.false_eq_true, Nat.sub_self, beq_self_eq_true, Int.reduceBEq, Int.reduceLT, Int.reduceLE, Nat.reduceSub, szl_0, szs_0, szl_1, szs_1, szl_2, szs_2, szl_3, szs_3, szl_4, szs_4, szl_5, szs_5, szl_6, szs_6, szl_7, szs_7, szl_8, szs_8, szl_9, szs_9, szl_10, szs_10, szl_11, szs_11, szl_12, szs_12, gSub_int, gMul_small, gDiv_small, gMod_pos, kt_non]
theorem ishouse_cut {a b : D} : m_is_house [.d (.tup [a, b])] = .ret (.d (.bl false)) [.d (.tup [a, b])] := by
  unfold m_is_house
  refine (mDef_eq (nP := 1) (by rfl)).trans ?_
  unfold pk_is_house
  simp (decide := true) only [bind_ok, bind_ex, thenS_ok, thenS_ex, of_some, mC_eq, kVar, mVar_eq, kMove, mMove_eq, kD, mD_eq, kF, mF_eq, kBin2, kBin, mBin_eq, kBinB2, kBinB, mBinB_eq, kB, mB_eq, kT, mT_eq, kChain3, kChainB, kChain2, kChain, mChain_eq, kAnd, mAnd_eq, kOr, mOr_eq, kNot, mNot_eq, kAndV, mAndV_eq, kOrV, mOrV_eq, kNotV, mNotV_eq, kIf, mIf_eq, mNil_eq, kCons2, kCons, mCons_eq, kTupD, mTup_eq, kLst, mLst_eq, kUn, mUn_eq, kFun, mFun_eq, kFunL2, kFunL, mFunL_eq, kCat, mCat_eq, catK2, kStr2, kStr1, mStr1_eq, kSplit2, kSplit, mSplit_eq, mNo_eq, kPart, mPart_eq, kSl3, kSl2, kSl, mSl_eq, mJs_nil, kJs, mJs_cons, kLenS, mLenS_eq, kIxS3, kIxS2, kIxS, mIxS_eq, aNil_eq, kA2, kA, aD_eq, kAS2, kAS, aS_eq, kCall3, kCall2, kCall, mCall_eq, sSkip_eq, sSeq_eq, seq_nx, seq_rt, seq_ex, seq_bk, seq_ct, kRet, sRet_eq, kExpr, sExpr_eq, kIfS, sIf_eq, kSet, sSet_eq, kPar, sPar_eq, opt_some, kAsg, sAsg_eq, kApp3, kApp2, kApp, sApp_eq, kPut4, kPut3, kPut2, kPut1, kPut, sPut_eq, fin_nx, fin_rt, fin_ex, loop_nx, loop_ct, loop_bk, loop_rt, loop_ex, forL_nil, kTurn, forL_cons, kFor, sFor_eq, kWh, kSeq, mSeq_eq, mRange1_eq, mRange2_eq, mYes_eq, lcopt_some, lcout_ok, lcL_nil, kLc3, kLc2, kLc1, lcL_cons, kLcEnd, kLc, mLc_eq, cEq_int, cNe_int, gAdd, gNeg, cI, gInt, gIx, gLen, gAbs, gMax2, gMin2, gTuple, gList, gAll, bls?, gStr, gIsi, D.ty, gN, gTupl, gsCons, gsNil, atI_0, atI_1, atI_2, atI_3, atI_4, atI_5, atI_6, ixN_0, ixN_1, back, lookA, Arg.look, slotsA, modesFrom, outsFrom, restore, wipeR, SV.toD, OC.toD, List.map_cons, List.map_nil, List.replicate_succ, List.replicate_zero, List.cons_append, List.nil_append, List.getElem?_cons_zero, List.getElem?_cons_succ, List.getElem?_nil, List.set_cons_zero, List.set_cons_succ, List.length_cons, List.length_nil, List.length_map, List.nodup_cons, List.nodup_nil, List.not_mem_nil, List.mem_cons, Option.bind_some, Option.map_some, ↓reduceIte, decide_true, decide_false, Bool.not_true, Bool.not_false, and_self, and_true, true_and, not_false_eq_true, not_true_eq_false, or_false, false_or, Bool.false_eq_true, Nat.sub_self, beq_self_eq_true, Int.reduceBEq, Int.reduceLT, Int.reduceLE, Nat.reduceSub, szl_0, szs_0, szl_1, szs_1, szl_2, szs_2, szl_3, szs_3, szl_4, szs_4, szl_5, szs_5, szl_6, szs_6, szl_7, szs_7, szl_8, szs_8, szl_9, szs_9, szl_10, szs_10, szl_11, szs_11, szl_12, szs_12, gSub_int, gMul_small, gDiv_small, gMod_pos, kt_tuple, len2]
theorem needhouse_ok {H : Hs} (hH : H.Ok) : m_need_house [.d H.d] = .ret (.d .non) [.d H.d] := by
  unfold m_need_house
  refine (mDef_eq (nP := 1) (by rfl)).trans ?_
  unfold pk_need_house
  simp only [bind_ok, bind_ex, thenS_ok, thenS_ex, of_some, mC_eq, kVar, mVar_eq, kMove, mMove_eq, kD, mD_eq, kF, mF_eq, kBin2, kBin, mBin_eq, kBinB2, kBinB, mBinB_eq, kB, mB_eq, kT, mT_eq, kChain3, kChainB, kChain2, kChain, mChain_eq, kAnd, mAnd_eq, kOr, mOr_eq, kNot, mNot_eq, kAndV, mAndV_eq, kOrV, mOrV_eq, kNotV, mNotV_eq, kIf, mIf_eq, mNil_eq, kCons2, kCons, mCons_eq, kTupD, mTup_eq, kLst, mLst_eq, kUn, mUn_eq, kFun, mFun_eq, kFunL2, kFunL, mFunL_eq, kCat, mCat_eq, catK2, kStr2, kStr1, mStr1_eq, kSplit2, kSplit, mSplit_eq, mNo_eq, kPart, mPart_eq, kSl3, kSl2, kSl, mSl_eq, mJs_nil, kJs, mJs_cons, kLenS, mLenS_eq, kIxS3, kIxS2, kIxS, mIxS_eq, aNil_eq, kA2, kA, aD_eq, kAS2, kAS, aS_eq, kCall3, kCall2, kCall, mCall_eq, sSkip_eq, sSeq_eq, seq_nx, seq_rt, seq_ex, seq_bk, seq_ct, kRet, sRet_eq, kExpr, sExpr_eq, kIfS, sIf_eq, kSet, sSet_eq, kPar, sPar_eq, opt_some, kAsg, sAsg_eq, kApp3, kApp2, kApp, sApp_eq, kPut4, kPut3, kPut2, kPut1, kPut, sPut_eq, fin_nx, fin_rt, fin_ex, loop_nx, loop_ct, loop_bk, loop_rt, loop_ex, forL_nil, kTurn, forL_cons, kFor, sFor_eq, kWh, kSeq, mSeq_eq, mRange1_eq, mRange2_eq, mYes_eq, lcopt_some, lcout_ok, lcL_nil, kLc3, kLc2, kLc1, lcL_cons, kLcEnd, kLc, mLc_eq, cEq_int, cNe_int, gAdd, gNeg, cI, gInt, gIx, gLen, gAbs, gMax2, gMin2, gTuple, gList, gAll, bls?, gStr, gIsi, D.ty, gN, gTupl, gsCons, gsNil, atI_0, atI_1, atI_2, atI_3, atI_4, atI_5, atI_6, ixN_0, ixN_1, back, lookA, Arg.look, slotsA, modesFrom, outsFrom, restore, wipeR, SV.toD, OC.toD, List.map_cons, List.map_nil, List.replicate_succ, List.replicate_zero, List.cons_append, List.nil_append, List.getElem?_cons_zero, List.getElem?_cons_succ, List.getElem?_nil, List.set_cons_zero, List.set_cons_succ, List.length_cons, List.length_nil, List.length_map, List.nodup_cons, List.nodup_nil, List.not_mem_nil, List.mem_cons, Option.bind_some, Option.map_some, ↓reduceIte, decide_true, decide_false, Bool.not_true, Bool.not_false, and_self, and_true, true_and, not_false_eq_true, not_true_eq_false, or_false, false_or, Bool.false_eq_true, Nat.sub_self, beq_self_eq_true, Int.reduceBEq, Int.reduceLT, Int.reduceLE, Nat.reduceSub, szl_0, szs_0, szl_1, szs_1, szl_2, szs_2, szl_3, szs_3, szl_4, szs_4, szl_5, szs_5, szl_6, szs_6, szl_7, szs_7, szl_8, szs_8, szl_9, szs_9, szl_10, szs_10, szl_11, szs_11, szl_12, szs_12, gSub_int, gMul_small, gDiv_small, gMod_pos, ishouse_eq hH]
theorem needhouse_non : m_need_house [.d .non] = .ex ⟨"InvalidHouse", none⟩ [.d .non] := by
  unfold m_need_house
  refine (mDef_eq (nP := 1) (by rfl)).trans ?_
  unfold pk_need_house
  simp only [bind_ok, bind_ex, thenS_ok, thenS_ex, of_some, mC_eq, kVar, mVar_eq, kMove, mMove_eq, kD, mD_eq, kF, mF_eq, kBin2, kBin, mBin_eq, kBinB2, kBinB, mBinB_eq, kB, mB_eq, kT, mT_eq, kChain3, kChainB, kChain2, kChain, mChain_eq, kAnd, mAnd_eq, kOr, mOr_eq, kNot, mNot_eq, kAndV, mAndV_eq, kOrV, mOrV_eq, kNotV, mNotV_eq, kIf, mIf_eq, mNil_eq, kCons2, kCons, mCons_eq, kTupD, mTup_eq, kLst, mLst_eq, kUn, mUn_eq, kFun, mFun_eq, kFunL2, kFunL, mFunL_eq, kCat, mCat_eq, catK2, kStr2, kStr1, mStr1_eq, kSplit2, kSplit, mSplit_eq, mNo_eq, kPart, mPart_eq, kSl3, kSl2, kSl, mSl_eq, mJs_nil, kJs, mJs_cons, kLenS, mLenS_eq, kIxS3, kIxS2, kIxS, mIxS_eq, aNil_eq, kA2, kA, aD_eq, kAS2, kAS, aS_eq, kCall3, kCall2, kCall, mCall_eq, sSkip_eq, sSeq_eq, seq_nx, seq_rt, seq_ex, seq_bk, seq_ct, kRet, sRet_eq, kExpr, sExpr_eq, kIfS, sIf_eq, kSet, sSet_eq, kPar, sPar_eq, opt_some, kAsg, sAsg_eq, kApp3, kApp2, kApp, sApp_eq, kPut4, kPut3, kPut2, kPut1, kPut, sPut_eq, fin_nx, fin_rt, fin_ex, loop_nx, loop_ct, loop_bk, loop_rt, loop_ex, forL_nil, kTurn, forL_cons, kFor, sFor_eq, kWh, kSeq, mSeq_eq, mRange1_eq, mRange2_eq, mYes_eq, lcopt_some, lcout_ok, lcL_nil, kLc3, kLc2, kLc1, lcL_cons, kLcEnd, kLc, mLc_eq, cEq_int, cNe_int, gAdd, gNeg, cI, gInt, gIx, gLen, gAbs, gMax2, gMin2, gTuple, gList, gAll, bls?, gStr, gIsi, D.ty, gN, gTupl, gsCons, gsNil, atI_0, atI_1, atI_2, atI_3, atI_4, atI_5, atI_6, ixN_0, ixN_1, back, lookA, Arg.look, slotsA, modesFrom, outsFrom, restore, wipeR, SV.toD, OC.toD, List.map_cons, List.map_nil, List.replicate_succ, List.replicate_zero, List.cons_append, List.nil_append, List.getElem?_cons_zero, List.getElem?_cons_succ, List.getElem?_nil, List.set_cons_zero, List.set_cons_succ, List.length_cons, List.length_nil, List.length_map, List.nodup_cons, List.nodup_nil, List.not_mem_nil, List.mem_cons, Option.bind_some, Option.map_some, ↓reduceIte, decide_true, decide_false, Bool.not_true, Bool.not_false, and_self, and_true, true_and, not_false_eq_true, not_true_eq_false, or_false, false_or, Bool.false_eq_true, Nat.sub_self, beq_self_eq_true, Int.reduceBEq, Int.reduceLT, Int.reduceLE, Nat.reduceSub, szl_0, szs_0, szl_1, szs_1, szl_2, szs_2, szl_3, szs_3, szl_4, szs_4, szl_5, szs_5, szl_6, szs_6, szl_7, szs_7, szl_8, szs_8, szl_9, szs_9, szl_10, szs_10, szl_11, szs_11, szl_12, szs_12, gSub_int, gMul_small, gDiv_small, gMod_pos, ishouse_non]
theorem needhouse_cut {a b : D} : m_need_house [.d (.tup [a, b])] = .ex ⟨"InvalidHouse", none⟩ [.d (.tup [a, b])] := by
  unfold m_need_house
  refine (mDef_eq (nP := 1) (by rfl)).trans ?_
  unfold pk_need_house
  simp only [bind_ok, bind_ex, thenS_ok, thenS_ex, of_some, mC_eq, kVar, mVar_eq, kMove, mMove_eq, kD, mD_eq, kF, mF_eq, kBin2, kBin, mBin_eq, kBinB2, kBinB, mBinB_eq, kB, mB_eq, kT, mT_eq, kChain3, kChainB, kChain2, kChain, mChain_eq, kAnd, mAnd_eq, kOr, mOr_eq, kNot, mNot_eq, kAndV, mAndV_eq, kOrV, mOrV_eq, kNotV, mNotV_eq, kIf, mIf_eq, mNil_eq, kCons2, kCons, mCons_eq, kTupD, mTup_eq, kLst, mLst_eq, kUn, mUn_eq, kFun, mFun_eq, kFunL2, kFunL, mFunL_eq, kCat, mCat_eq, catK2, kStr2, kStr1, mStr1_eq, kSplit2, kSplit, mSplit_eq, mNo_eq, kPart, mPart_eq, kSl3, kSl2, kSl, mSl_eq, mJs_nil, kJs, mJs_cons, kLenS, mLenS_eq, kIxS3, kIxS2, kIxS, mIxS_eq, aNil_eq, kA2, kA, aD_eq, kAS2, kAS, aS_eq, kCall3, kCall2, kCall, mCall_eq, sSkip_eq, sSeq_eq, seq_nx, seq_rt, seq_ex, seq_bk, seq_ct, kRet, sRet_eq, kExpr, sExpr_eq, kIfS, sIf_eq, kSet, sSet_eq, kPar, sPar_eq, opt_some, kAsg, sAsg_eq, kApp3, kApp2, kApp, sApp_eq, kPut4, kPut3, kPut2, kPut1, kPut, sPut_eq, fin_nx, fin_rt, fin_ex, loop_nx, loop_ct, loop_bk, loop_rt, loop_ex, forL_nil, kTurn, forL_cons, kFor, sFor_eq, kWh, kSeq, mSeq_eq, mRange1_eq, mRange2_eq, mYes_eq, lcopt_some, lcout_ok, lcL_nil, kLc3, kLc2, kLc1, lcL_cons, kLcEnd, kLc, mLc_eq, cEq_int, cNe_int, gAdd, gNeg, cI, gInt, gIx, gLen, gAbs, gMax2, gMin2, gTuple, gList, gAll, bls?, gStr, gIsi, D.ty, gN, gTupl, gsCons, gsNil, atI_0, atI_1, atI_2, atI_3, atI_4, atI_5, atI_6, ixN_0, ixN_1, back, lookA, Arg.look, slotsA, modesFrom, outsFrom, restore, wipeR, SV.toD, OC.toD, List.map_cons, List.map_nil, List.replicate_succ, List.replicate_zero, List.cons_append, List.nil_append, List.getElem?_cons_zero, List.getElem?_cons_succ, List.getElem?_nil, List.set_cons_zero, List.set_cons_succ, List.length_cons, List.length_nil, List.length_map, List.nodup_cons, List.nodup_nil, List.not_mem_nil, List.mem_cons, Option.bind_some, Option.map_some, ↓reduceIte, decide_true, decide_false, Bool.not_true, Bool.not_false, and_self, and_true, true_and, not_false_eq_true, not_true_eq_false, or_false, false_or, Bool.false_eq_true, Nat.sub_self, beq_self_eq_true, Int.reduceBEq, Int.reduceLT, Int.reduceLE, Nat.reduceSub, szl_0, szs_0, szl_1, szs_1, szl_2, szs_2, szl_3, szs_3, szl_4, szs_4, szl_5, szs_5, szl_6, szs_6, szl_7, szs_7, szl_8, szs_8, szl_9, szs_9, szl_10, szs_10, szl_11, szs_11, szl_12, szs_12, gSub_int, gMul_small, gDiv_small, gMod_pos, ishouse_cut]
/-! ### rules -/
abbrev St3 := Int × Int × Int
def stD (s : St3) : D := .tup [.int s.1, .int s.2.1, .int s.2.2]
def ruleD (R : List St3) : D := .tup (R.map stD)
structure ROk (H : Hs) (R : List St3) : Prop where
  one : 1 ≤ R.length
  four : R.length ≤ 4
  size : H.size R.length ≤ 4000
  st : ∀ s ∈ R, (0 ≤ s.1 ∧ s.1 < H.places) ∧ (0 ≤ s.2.1 ∧ s.2.1 < R.length) ∧ 0 ≤ s.2.2 ∧ s.2.2 < R.length
theorem isrule_list {H : Hs} {xs : List D} : m_is_rule_of [.d H.d, .d (.lst xs)] = .ret (.d (.bl false)) [.d H.d, .d (.lst xs)] := by
  unfold m_is_rule_of
  refine (mDef_eq (nP := 2) (by rfl)).trans ?_
  unfold pk_is_rule_of
  simp only [bind_ok, bind_ex, thenS_ok, thenS_ex, of_some, mC_eq, kVar, mVar_eq, kMove, mMove_eq, kD, mD_eq, kF, mF_eq, kBin2, kBin, mBin_eq, kBinB2, kBinB, mBinB_eq, kB, mB_eq, kT, mT_eq, kChain3, kChainB, kChain2, kChain, mChain_eq, kAnd, mAnd_eq, kOr, mOr_eq, kNot, mNot_eq, kAndV, mAndV_eq, kOrV, mOrV_eq, kNotV, mNotV_eq, kIf, mIf_eq, mNil_eq, kCons2, kCons, mCons_eq, kTupD, mTup_eq, kLst, mLst_eq, kUn, mUn_eq, kFun, mFun_eq, kFunL2, kFunL, mFunL_eq, kCat, mCat_eq, catK2, kStr2, kStr1, mStr1_eq, kSplit2, kSplit, mSplit_eq, mNo_eq, kPart, mPart_eq, kSl3, kSl2, kSl, mSl_eq, mJs_nil, kJs, mJs_cons, kLenS, mLenS_eq, kIxS3, kIxS2, kIxS, mIxS_eq, aNil_eq, kA2, kA, aD_eq, kAS2, kAS, aS_eq, kCall3, kCall2, kCall, mCall_eq, sSkip_eq, sSeq_eq, seq_nx, seq_rt, seq_ex, seq_bk, seq_ct, kRet, sRet_eq, kExpr, sExpr_eq, kIfS, sIf_eq, kSet, sSet_eq, kPar, sPar_eq, opt_some, kAsg, sAsg_eq, kApp3, kApp2, kApp, sApp_eq, kPut4, kPut3, kPut2, kPut1, kPut, sPut_eq, fin_nx, fin_rt, fin_ex, loop_nx, loop_ct, loop_bk, loop_rt, loop_ex, forL_nil, kTurn, forL_cons, kFor, sFor_eq, kWh, kSeq, mSeq_eq, mRange1_eq, mRange2_eq, mYes_eq, lcopt_some, lcout_ok, lcL_nil, kLc3, kLc2, kLc1, lcL_cons, kLcEnd, kLc, mLc_eq, cEq_int, cNe_int, gAdd, gNeg, cI, gInt, gIx, gLen, gAbs, gMax2, gMin2, gTuple, gList, gAll, bls?, gStr, gIsi, D.ty, gN, gTupl, gsCons, gsNil, atI_0, atI_1, atI_2, atI_3, atI_4, atI_5, atI_6, ixN_0, ixN_1, back, lookA, Arg.look, slotsA, modesFrom, outsFrom, restore, wipeR, SV.toD, OC.toD, List.map_cons, List.map_nil, List.replicate_succ, List.replicate_zero, List.cons_append, List.nil_append, List.getElem?_cons_zero, List.getElem?_cons_succ, List.getElem?_nil, List.set_cons_zero, List.set_cons_succ, List.length_cons, List.length_nil, List.length_map, List.nodup_cons, List.nodup_nil, List.not_mem_nil, List.mem_cons, Option.bind_some, Option.map_some, ↓reduceIte, decide_true, decide_false, Bool.not_true, Bool.not_false, and_self, and_true, true_and, not_false_eq_true, not_true_eq_false, or_false, false_or, Bool.false_eq_true, Nat.sub_self, beq_self_eq_true, Int.reduceBEq, Int.reduceLT, Int.reduceLE, Nat.reduceSub, szl_0, szs_0, szl_1, szs_1, szl_2, szs_2, szl_3, szs_3, szl_4, szs_4, szl_5, szs_5, szl_6, szs_6, szl_7, szs_7, szl_8, szs_8, szl_9, szs_9, szl_10, szs_10, szl_11, szs_11, szl_12, szs_12, gSub_int, gMul_small, gDiv_small, gMod_pos, kt_list]
theorem isrule_eq {H : Hs} {R : List St3} (hH : H.Ok) (hR : ROk H R) : m_is_rule_of [.d H.d, .d (ruleD R)] = .ret (.d (.bl true)) [.d H.d, .d (ruleD R)] := by
  unfold m_is_rule_of
  refine (mDef_eq (nP := 2) (by rfl)).trans ?_
  unfold pk_is_rule_of
  have h1 : (1 : Int) ≤ R.length := by have := hR.one; omega
  have h2 : (R.length : Int) ≤ 4 := by have := hR.four; omega
  have hs : ¬ 4000 < H.size R.length := by have := hR.size; omega
  simp (decide := true) only [bind_ok, bind_ex, thenS_ok, thenS_ex, of_some, mC_eq, kVar, mVar_eq, kMove, mMove_eq, kD, mD_eq, kF, mF_eq, kBin2, kBin, mBin_eq, kBinB2, kBinB, mBinB_eq, kB, mB_eq, kT, mT_eq, kChain3, kChainB, kChain2, kChain, mChain_eq, kAnd, mAnd_eq, kOr, mOr_eq, kNot, mNot_eq, kAndV, mAndV_eq, kOrV, mOrV_eq, kNotV, mNotV_eq, kIf, mIf_eq, mNil_eq, kCons2, kCons, mCons_eq, kTupD, mTup_eq, kLst, mLst_eq, kUn, mUn_eq, kFun, mFun_eq, kFunL2, kFunL, mFunL_eq, kCat, mCat_eq, catK2, kStr2, kStr1, mStr1_eq, kSplit2, kSplit, mSplit_eq, mNo_eq, kPart, mPart_eq, kSl3, kSl2, kSl, mSl_eq, mJs_nil, kJs, mJs_cons, kLenS, mLenS_eq, kIxS3, kIxS2, kIxS, mIxS_eq, aNil_eq, kA2, kA, aD_eq, kAS2, kAS, aS_eq, kCall3, kCall2, kCall, mCall_eq, sSkip_eq, sSeq_eq, seq_nx, seq_rt, seq_ex, seq_bk, seq_ct, kRet, sRet_eq, kExpr, sExpr_eq, kIfS, sIf_eq, kSet, sSet_eq, kPar, sPar_eq, opt_some, kAsg, sAsg_eq, kApp3, kApp2, kApp, sApp_eq, kPut4, kPut3, kPut2, kPut1, kPut, sPut_eq, fin_nx, fin_rt, fin_ex, loop_nx, loop_ct, loop_bk, loop_rt, loop_ex, forL_nil, kTurn, forL_cons, kFor, sFor_eq, kWh, kSeq, mSeq_eq, mRange1_eq, mRange2_eq, mYes_eq, lcopt_some, lcout_ok, lcL_nil, kLc3, kLc2, kLc1, lcL_cons, kLcEnd, kLc, mLc_eq, cEq_int, cNe_int, gAdd, gNeg, cI, gInt, gIx, gLen, gAbs, gMax2, gMin2, gTuple, gList, gAll, bls?, gStr, gIsi, D.ty, gN, gTupl, gsCons, gsNil, atI_0, atI_1, atI_2, atI_3, atI_4, atI_5, atI_6, ixN_0, ixN_1, back, lookA, Arg.look, slotsA, modesFrom, outsFrom, restore, wipeR, SV.toD, OC.toD, List.map_cons, List.map_nil, List.replicate_succ, List.replicate_zero, List.cons_append, List.nil_append, List.getElem?_cons_zero, List.getElem?_cons_succ, List.getElem?_nil, List.set_cons_zero, List.set_cons_succ, List.length_cons, List.length_nil, List.length_map, List.nodup_cons, List.nodup_nil, List.not_mem_nil, List.mem_cons, Option.bind_some, Option.map_some, ↓reduceIte, decide_true, decide_false, Bool.not_true, Bool.not_false, and_self, and_true, true_and, not_false_eq_true, not_true_eq_false, or_false, false_or, Bool.false_eq_true, Nat.sub_self, beq_self_eq_true, Int.reduceBEq, Int.reduceLT, Int.reduceLE, Nat.reduceSub, szl_0, szs_0, szl_1, szs_1, szl_2, szs_2, szl_3, szs_3, szl_4, szs_4, szl_5, szs_5, szl_6, szs_6, szl_7, szs_7, szl_8, szs_8, szl_9, szs_9, szl_10, szs_10, szl_11, szs_11, szl_12, szs_12, gSub_int, gMul_small, gDiv_small, gMod_pos, ruleD, kt_tuple, h1, h2, size_eq hH h1 h2, hs]
  have key : ∀ d ∈ R.map stD, (sIf (mOr (mNot (mT (mF (mCall [] m_are_ints (aD (mVar 2) (aD (mC (D.int 3)) (aD (mC (D.int 0)) (aD (mC (D.int 3)) aNil)))))))) (mOr (mBinB cGe (mBin gIx (mVar 2) (mC (D.int 0))) (mFun gLen (mCons (mBin gIx (mVar 0) (mC (D.int 0))) mNil)))
      (mBinB cGe (mFun gMaxS (mCons (mSl (mVar 2) (mPart (mC (D.int 1))) mNo) mNil)) (mFun gLen (mCons (mVar 1) mNil))))) (sRet (mD (mC (D.bl false)))) sSkip) ([some (SV.d H.d), some (SV.d (D.tup (List.map stD R))), none].set 2 (some (.d d))) = .nx ([some (SV.d H.d), some (SV.d (D.tup (List.map stD R))), none].set 2 (some (.d d))) := fun d hd => by
    obtain ⟨⟨p, e, f⟩, hs, rfl⟩ := List.mem_map.mp hd
    obtain ⟨q1, q2, q3⟩ := hR.st _ hs
    dsimp only at q1 q2 q3
    have hp : H.places ≤ 3 := by cases H <;> simp [Hs.places]
    have i3 : inside 0 3 [p, e, f] = true := inside3 (by omega) (by omega) (by omega)
    have hm : gMaxS [.tup [.int e, .int f]] = some (.int (if e < f then f else e)) := rfl
    have hc : gSl (.tup [.int p, .int e, .int f]) (some 1) none = some (.tup [.int e, .int f]) := rfl
    have g2 : ¬ (R.length : Int) ≤ (if e < f then f else e) := by split <;> omega
    cases H with
    | two p1 p2 g q =>
      have g1 : ¬ 2 ≤ p := by have := q1.2; simp only [Hs.places] at this; omega
      simp only [bind_ok, bind_ex, thenS_ok, thenS_ex, of_some, mC_eq, kVar, mVar_eq, kMove, mMove_eq, kD, mD_eq, kF, mF_eq, kBin2, kBin, mBin_eq, kBinB2, kBinB, mBinB_eq, kB, mB_eq, kT, mT_eq, kChain3, kChainB, kChain2, kChain, mChain_eq, kAnd, mAnd_eq, kOr, mOr_eq, kNot, mNot_eq, kAndV, mAndV_eq, kOrV, mOrV_eq, kNotV, mNotV_eq, kIf, mIf_eq, mNil_eq, kCons2, kCons, mCons_eq, kTupD, mTup_eq, kLst, mLst_eq, kUn, mUn_eq, kFun, mFun_eq, kFunL2, kFunL, mFunL_eq, kCat, mCat_eq, catK2, kStr2, kStr1, mStr1_eq, kSplit2, kSplit, mSplit_eq, mNo_eq, kPart, mPart_eq, kSl3, kSl2, kSl, mSl_eq, mJs_nil, kJs, mJs_cons, kLenS, mLenS_eq, kIxS3, kIxS2, kIxS, mIxS_eq, aNil_eq, kA2, kA, aD_eq, kAS2, kAS, aS_eq, kCall3, kCall2, kCall, mCall_eq, sSkip_eq, sSeq_eq, seq_nx, seq_rt, seq_ex, seq_bk, seq_ct, kRet, sRet_eq, kExpr, sExpr_eq, kIfS, sIf_eq, kSet, sSet_eq, kPar, sPar_eq, opt_some, kAsg, sAsg_eq, kApp3, kApp2, kApp, sApp_eq, kPut4, kPut3, kPut2, kPut1, kPut, sPut_eq, fin_nx, fin_rt, fin_ex, loop_nx, loop_ct, loop_bk, loop_rt, loop_ex, forL_nil, kTurn, forL_cons, kFor, sFor_eq, kWh, kSeq, mSeq_eq, mRange1_eq, mRange2_eq, mYes_eq, lcopt_some, lcout_ok, lcL_nil, kLc3, kLc2, kLc1, lcL_cons, kLcEnd, kLc, mLc_eq, cEq_int, cNe_int, gAdd, gNeg, cI, gInt, gIx, gLen, gAbs, gMax2, gMin2, gTuple, gList, gAll, bls?, gStr, gIsi, D.ty, gN, gTupl, gsCons, gsNil, atI_0, atI_1, atI_2, atI_3, atI_4, atI_5, atI_6, ixN_0, ixN_1, back, lookA, Arg.look, slotsA, modesFrom, outsFrom, restore, wipeR, SV.toD, OC.toD, List.map_cons, List.map_nil, List.replicate_succ, List.replicate_zero, List.cons_append, List.nil_append, List.getElem?_cons_zero, List.getElem?_cons_succ, List.getElem?_nil, List.set_cons_zero, List.set_cons_succ, List.length_cons, List.length_nil, List.length_map, List.nodup_cons, List.nodup_nil, List.not_mem_nil, List.mem_cons, Option.bind_some, Option.map_some, ↓reduceIte, decide_true, decide_false, Bool.not_true, Bool.not_false, and_self, and_true, true_and, not_false_eq_true, not_true_eq_false, or_false, false_or, Bool.false_eq_true, Nat.sub_self, beq_self_eq_true, Int.reduceBEq, Int.reduceLT, Int.reduceLE, Nat.reduceSub, szl_0, szs_0, szl_1, szs_1, szl_2, szs_2, szl_3, szs_3, szl_4, szs_4, szl_5, szs_5, szl_6, szs_6, szl_7, szs_7, szl_8, szs_8, szl_9, szs_9, szl_10, szs_10, szl_11, szs_11, szl_12, szs_12, gSub_int, gMul_small, gDiv_small, gMod_pos, Hs.d, stD, areints3, i3, Bool.and_self, g1, g2, len2, hm, hc]
    | three p1 p2 p3 q =>
      have g1 : ¬ 3 ≤ p := by have := q1.2; simp only [Hs.places] at this; omega
      simp only [bind_ok, bind_ex, thenS_ok, thenS_ex, of_some, mC_eq, kVar, mVar_eq, kMove, mMove_eq, kD, mD_eq, kF, mF_eq, kBin2, kBin, mBin_eq, kBinB2, kBinB, mBinB_eq, kB, mB_eq, kT, mT_eq, kChain3, kChainB, kChain2, kChain, mChain_eq, kAnd, mAnd_eq, kOr, mOr_eq, kNot, mNot_eq, kAndV, mAndV_eq, kOrV, mOrV_eq, kNotV, mNotV_eq, kIf, mIf_eq, mNil_eq, kCons2, kCons, mCons_eq, kTupD, mTup_eq, kLst, mLst_eq, kUn, mUn_eq, kFun, mFun_eq, kFunL2, kFunL, mFunL_eq, kCat, mCat_eq, catK2, kStr2, kStr1, mStr1_eq, kSplit2, kSplit, mSplit_eq, mNo_eq, kPart, mPart_eq, kSl3, kSl2, kSl, mSl_eq, mJs_nil, kJs, mJs_cons, kLenS, mLenS_eq, kIxS3, kIxS2, kIxS, mIxS_eq, aNil_eq, kA2, kA, aD_eq, kAS2, kAS, aS_eq, kCall3, kCall2, kCall, mCall_eq, sSkip_eq, sSeq_eq, seq_nx, seq_rt, seq_ex, seq_bk, seq_ct, kRet, sRet_eq, kExpr, sExpr_eq, kIfS, sIf_eq, kSet, sSet_eq, kPar, sPar_eq, opt_some, kAsg, sAsg_eq, kApp3, kApp2, kApp, sApp_eq, kPut4, kPut3, kPut2, kPut1, kPut, sPut_eq, fin_nx, fin_rt, fin_ex, loop_nx, loop_ct, loop_bk, loop_rt, loop_ex, forL_nil, kTurn, forL_cons, kFor, sFor_eq, kWh, kSeq, mSeq_eq, mRange1_eq, mRange2_eq, mYes_eq, lcopt_some, lcout_ok, lcL_nil, kLc3, kLc2, kLc1, lcL_cons, kLcEnd, kLc, mLc_eq, cEq_int, cNe_int, gAdd, gNeg, cI, gInt, gIx, gLen, gAbs, gMax2, gMin2, gTuple, gList, gAll, bls?, gStr, gIsi, D.ty, gN, gTupl, gsCons, gsNil, atI_0, atI_1, atI_2, atI_3, atI_4, atI_5, atI_6, ixN_0, ixN_1, back, lookA, Arg.look, slotsA, modesFrom, outsFrom, restore, wipeR, SV.toD, OC.toD, List.map_cons, List.map_nil, List.replicate_succ, List.replicate_zero, List.cons_append, List.nil_append, List.getElem?_cons_zero, List.getElem?_cons_succ, List.getElem?_nil, List.set_cons_zero, List.set_cons_succ, List.length_cons, List.length_nil, List.length_map, List.nodup_cons, List.nodup_nil, List.not_mem_nil, List.mem_cons, Option.bind_some, Option.map_some, ↓reduceIte, decide_true, decide_false, Bool.not_true, Bool.not_false, and_self, and_true, true_and, not_false_eq_true, not_true_eq_false, or_false, false_or, Bool.false_eq_true, Nat.sub_self, beq_self_eq_true, Int.reduceBEq, Int.reduceLT, Int.reduceLE, Nat.reduceSub, szl_0, szs_0, szl_1, szs_1, szl_2, szs_2, szl_3, szs_3, szl_4, szs_4, szl_5, szs_5, szl_6, szs_6, szl_7, szs_7, szl_8, szs_8, szl_9, szs_9, szl_10, szs_10, szl_11, szs_11, szl_12, szs_12, gSub_int, gMul_small, gDiv_small, gMod_pos, Hs.d, stD, areints3, i3, Bool.and_self, g1, g2, len3, hm, hc]
  obtain ⟨x, ex⟩ := forL_keep (R.map stD) none key
  have ex : sForL _ _ _ [some (SV.d H.d), some (SV.d (D.tup (List.map stD R))), none] = _ := ex
  rw [ex]
  simp only [bind_ok, bind_ex, thenS_ok, thenS_ex, of_some, mC_eq, kVar, mVar_eq, kMove, mMove_eq, kD, mD_eq, kF, mF_eq, kBin2, kBin, mBin_eq, kBinB2, kBinB, mBinB_eq, kB, mB_eq, kT, mT_eq, kChain3, kChainB, kChain2, kChain, mChain_eq, kAnd, mAnd_eq, kOr, mOr_eq, kNot, mNot_eq, kAndV, mAndV_eq, kOrV, mOrV_eq, kNotV, mNotV_eq, kIf, mIf_eq, mNil_eq, kCons2, kCons, mCons_eq, kTupD, mTup_eq, kLst, mLst_eq, kUn, mUn_eq, kFun, mFun_eq, kFunL2, kFunL, mFunL_eq, kCat, mCat_eq, catK2, kStr2, kStr1, mStr1_eq, kSplit2, kSplit, mSplit_eq, mNo_eq, kPart, mPart_eq, kSl3, kSl2, kSl, mSl_eq, mJs_nil, kJs, mJs_cons, kLenS, mLenS_eq, kIxS3, kIxS2, kIxS, mIxS_eq, aNil_eq, kA2, kA, aD_eq, kAS2, kAS, aS_eq, kCall3, kCall2, kCall, mCall_eq, sSkip_eq, sSeq_eq, seq_nx, seq_rt, seq_ex, seq_bk, seq_ct, kRet, sRet_eq, kExpr, sExpr_eq, kIfS, sIf_eq, kSet, sSet_eq, kPar, sPar_eq, opt_some, kAsg, sAsg_eq, kApp3, kApp2, kApp, sApp_eq, kPut4, kPut3, kPut2, kPut1, kPut, sPut_eq, fin_nx, fin_rt, fin_ex, loop_nx, loop_ct, loop_bk, loop_rt, loop_ex, forL_nil, kTurn, forL_cons, kFor, sFor_eq, kWh, kSeq, mSeq_eq, mRange1_eq, mRange2_eq, mYes_eq, lcopt_some, lcout_ok, lcL_nil, kLc3, kLc2, kLc1, lcL_cons, kLcEnd, kLc, mLc_eq, cEq_int, cNe_int, gAdd, gNeg, cI, gInt, gIx, gLen, gAbs, gMax2, gMin2, gTuple, gList, gAll, bls?, gStr, gIsi, D.ty, gN, gTupl, gsCons, gsNil, atI_0, atI_1, atI_2, atI_3, atI_4, atI_5, atI_6, ixN_0, ixN_1, back, lookA, Arg.look, slotsA, modesFrom, outsFrom, restore, wipeR, SV.toD, OC.toD, List.map_cons, List.map_nil, List.replicate_succ, List.replicate_zero, List.cons_append, List.nil_append, List.getElem?_cons_zero, List.getElem?_cons_succ, List.getElem?_nil, List.set_cons_zero, List.set_cons_succ, List.length_cons, List.length_nil, List.length_map, List.nodup_cons, List.nodup_nil, List.not_mem_nil, List.mem_cons, Option.bind_some, Option.map_some, ↓reduceIte, decide_true, decide_false, Bool.not_true, Bool.not_false, and_self, and_true, true_and, not_false_eq_true, not_true_eq_false, or_false, false_or, Bool.false_eq_true, Nat.sub_self, beq_self_eq_true, Int.reduceBEq, Int.reduceLT, Int.reduceLE, Nat.reduceSub, szl_0, szs_0, szl_1, szs_1, szl_2, szs_2, szl_3, szs_3, szl_4, szs_4, szl_5, szs_5, szl_6, szs_6, szl_7, szs_7, szl_8, szs_8, szl_9, szs_9, szl_10, szs_10, szl_11, szs_11, szl_12, szs_12, gSub_int, gMul_small, gDiv_small, gMod_pos]
theorem needrule_ok {H : Hs} {R : List St3} (hH : H.Ok) (hR : ROk H R) : m_need_rule [.d H.d, .d (ruleD R)] = .ret (.d .non) [.d H.d, .d (ruleD R)] := by
  unfold m_need_rule
  refine (mDef_eq (nP := 2) (by rfl)).trans ?_
  unfold pk_need_rule
  simp only [bind_ok, bind_ex, thenS_ok, thenS_ex, of_some, mC_eq, kVar, mVar_eq, kMove, mMove_eq, kD, mD_eq, kF, mF_eq, kBin2, kBin, mBin_eq, kBinB2, kBinB, mBinB_eq, kB, mB_eq, kT, mT_eq, kChain3, kChainB, kChain2, kChain, mChain_eq, kAnd, mAnd_eq, kOr, mOr_eq, kNot, mNot_eq, kAndV, mAndV_eq, kOrV, mOrV_eq, kNotV, mNotV_eq, kIf, mIf_eq, mNil_eq, kCons2, kCons, mCons_eq, kTupD, mTup_eq, kLst, mLst_eq, kUn, mUn_eq, kFun, mFun_eq, kFunL2, kFunL, mFunL_eq, kCat, mCat_eq, catK2, kStr2, kStr1, mStr1_eq, kSplit2, kSplit, mSplit_eq, mNo_eq, kPart, mPart_eq, kSl3, kSl2, kSl, mSl_eq, mJs_nil, kJs, mJs_cons, kLenS, mLenS_eq, kIxS3, kIxS2, kIxS, mIxS_eq, aNil_eq, kA2, kA, aD_eq, kAS2, kAS, aS_eq, kCall3, kCall2, kCall, mCall_eq, sSkip_eq, sSeq_eq, seq_nx, seq_rt, seq_ex, seq_bk, seq_ct, kRet, sRet_eq, kExpr, sExpr_eq, kIfS, sIf_eq, kSet, sSet_eq, kPar, sPar_eq, opt_some, kAsg, sAsg_eq, kApp3, kApp2, kApp, sApp_eq, kPut4, kPut3, kPut2, kPut1, kPut, sPut_eq, fin_nx, fin_rt, fin_ex, loop_nx, loop_ct, loop_bk, loop_rt, loop_ex, forL_nil, kTurn, forL_cons, kFor, sFor_eq, kWh, kSeq, mSeq_eq, mRange1_eq, mRange2_eq, mYes_eq, lcopt_some, lcout_ok, lcL_nil, kLc3, kLc2, kLc1, lcL_cons, kLcEnd, kLc, mLc_eq, cEq_int, cNe_int, gAdd, gNeg, cI, gInt, gIx, gLen, gAbs, gMax2, gMin2, gTuple, gList, gAll, bls?, gStr, gIsi, D.ty, gN, gTupl, gsCons, gsNil, atI_0, atI_1, atI_2, atI_3, atI_4, atI_5, atI_6, ixN_0, ixN_1, back, lookA, Arg.look, slotsA, modesFrom, outsFrom, restore, wipeR, SV.toD, OC.toD, List.map_cons, List.map_nil, List.replicate_succ, List.replicate_zero, List.cons_append, List.nil_append, List.getElem?_cons_zero, List.getElem?_cons_succ, List.getElem?_nil, List.set_cons_zero, List.set_cons_succ, List.length_cons, List.length_nil, List.length_map, List.nodup_cons, List.nodup_nil, List.not_mem_nil, List.mem_cons, Option.bind_some, Option.map_some, ↓reduceIte, decide_true, decide_false, Bool.not_true, Bool.not_false, and_self, and_true, true_and, not_false_eq_true, not_true_eq_false, or_false, false_or, Bool.false_eq_true, Nat.sub_self, beq_self_eq_true, Int.reduceBEq, Int.reduceLT, Int.reduceLE, Nat.reduceSub, szl_0, szs_0, szl_1, szs_1, szl_2, szs_2, szl_3, szs_3, szl_4, szs_4, szl_5, szs_5, szl_6, szs_6, szl_7, szs_7, szl_8, szs_8, szl_9, szs_9, szl_10, szs_10, szl_11, szs_11, szl_12, szs_12, gSub_int, gMul_small, gDiv_small, gMod_pos, isrule_eq hH hR]
theorem needrule_list {H : Hs} {xs : List D} : m_need_rule [.d H.d, .d (.lst xs)] = .ex ⟨"InvalidRule", none⟩ [.d H.d, .d (.lst xs)] := by
  unfold m_need_rule
  refine (mDef_eq (nP := 2) (by rfl)).trans ?_
  unfold pk_need_rule
  simp only [bind_ok, bind_ex, thenS_ok, thenS_ex, of_some, mC_eq, kVar, mVar_eq, kMove, mMove_eq, kD, mD_eq, kF, mF_eq, kBin2, kBin, mBin_eq, kBinB2, kBinB, mBinB_eq, kB, mB_eq, kT, mT_eq, kChain3, kChainB, kChain2, kChain, mChain_eq, kAnd, mAnd_eq, kOr, mOr_eq, kNot, mNot_eq, kAndV, mAndV_eq, kOrV, mOrV_eq, kNotV, mNotV_eq, kIf, mIf_eq, mNil_eq, kCons2, kCons, mCons_eq, kTupD, mTup_eq, kLst, mLst_eq, kUn, mUn_eq, kFun, mFun_eq, kFunL2, kFunL, mFunL_eq, kCat, mCat_eq, catK2, kStr2, kStr1, mStr1_eq, kSplit2, kSplit, mSplit_eq, mNo_eq, kPart, mPart_eq, kSl3, kSl2, kSl, mSl_eq, mJs_nil, kJs, mJs_cons, kLenS, mLenS_eq, kIxS3, kIxS2, kIxS, mIxS_eq, aNil_eq, kA2, kA, aD_eq, kAS2, kAS, aS_eq, kCall3, kCall2, kCall, mCall_eq, sSkip_eq, sSeq_eq, seq_nx, seq_rt, seq_ex, seq_bk, seq_ct, kRet, sRet_eq, kExpr, sExpr_eq, kIfS, sIf_eq, kSet, sSet_eq, kPar, sPar_eq, opt_some, kAsg, sAsg_eq, kApp3, kApp2, kApp, sApp_eq, kPut4, kPut3, kPut2, kPut1, kPut, sPut_eq, fin_nx, fin_rt, fin_ex, loop_nx, loop_ct, loop_bk, loop_rt, loop_ex, forL_nil, kTurn, forL_cons, kFor, sFor_eq, kWh, kSeq, mSeq_eq, mRange1_eq, mRange2_eq, mYes_eq, lcopt_some, lcout_ok, lcL_nil, kLc3, kLc2, kLc1, lcL_cons, kLcEnd, kLc, mLc_eq, cEq_int, cNe_int, gAdd, gNeg, cI, gInt, gIx, gLen, gAbs, gMax2, gMin2, gTuple, gList, gAll, bls?, gStr, gIsi, D.ty, gN, gTupl, gsCons, gsNil, atI_0, atI_1, atI_2, atI_3, atI_4, atI_5, atI_6, ixN_0, ixN_1, back, lookA, Arg.look, slotsA, modesFrom, outsFrom, restore, wipeR, SV.toD, OC.toD, List.map_cons, List.map_nil, List.replicate_succ, List.replicate_zero, List.cons_append, List.nil_append, List.getElem?_cons_zero, List.getElem?_cons_succ, List.getElem?_nil, List.set_cons_zero, List.set_cons_succ, List.length_cons, List.length_nil, List.length_map, List.nodup_cons, List.nodup_nil, List.not_mem_nil, List.mem_cons, Option.bind_some, Option.map_some, ↓reduceIte, decide_true, decide_false, Bool.not_true, Bool.not_false, and_self, and_true, true_and, not_false_eq_true, not_true_eq_false, or_false, false_or, Bool.false_eq_true, Nat.sub_self, beq_self_eq_true, Int.reduceBEq, Int.reduceLT, Int.reduceLE, Nat.reduceSub, szl_0, szs_0, szl_1, szs_1, szl_2, szs_2, szl_3, szs_3, szl_4, szs_4, szl_5, szs_5, szl_6, szs_6, szl_7, szs_7, szl_8, szs_8, szl_9, szs_9, szl_10, szs_10, szl_11, szs_11, szl_12, szs_12, gSub_int, gMul_small, gDiv_small, gMod_pos, isrule_list]
end Lw
namespace Lw
open PySem PySem.Spec PyProof.Rows L2 L2H DL DH HotX LamX
/-! ### lines -/
def numS (i : Int) : Str := Str.ofString (toString i)
def lineX (s : St3) : Str := if s.2.1 = s.2.2 then ((("look at " : Str) ++ numS s.1) ++ (" then " : Str)) ++ numS s.2.1 else ((((("look at " : Str) ++ numS s.1) ++ (" empty " : Str)) ++ numS s.2.1) ++ (" found " : Str)) ++ numS s.2.2
def isStr (o : FOut) (x : Str) : Bool := match o with
  | .ret (.d (.str y)) _ => y == x
  | _ => false
def isTri (o : FOut) (s : St3) : Bool := match o with
  | .ret (.d (.tup [.int a, .int b, .int c])) _ => a == s.1 && b == s.2.1 && c == s.2.2
  | _ => false
def grid : List St3 := [0, 1, 2, 3].flatMap fun p => [0, 1, 2, 3].flatMap fun e => [0, 1, 2, 3].map fun f => (p, e, f)
theorem lines_ok : (grid.all fun s => isStr (m_line_of [.d (stD s)]) (lineX s)) = true := by decide +kernel
theorem states_ok : (grid.all fun s => isTri (m_state_in [.d (.str (lineX s))]) s) = true := by decide +kernel
theorem signs_ok : (grid.all fun s => !(lineX s).cps.toList.contains 10 && (lineX s).cps.toList.all (fun c => decide (c < 256)) && decide ((lineX s).length ≤ 40)) = true := by decide +kernel
theorem mem_grid {s : St3} (h : (0 ≤ s.1 ∧ s.1 < 4) ∧ (0 ≤ s.2.1 ∧ s.2.1 < 4) ∧ 0 ≤ s.2.2 ∧ s.2.2 < 4) : s ∈ grid := by
  obtain ⟨p, e, f⟩ := s
  dsimp only at h
  have hp : p = 0 ∨ p = 1 ∨ p = 2 ∨ p = 3 := by omega
  have he : e = 0 ∨ e = 1 ∨ e = 2 ∨ e = 3 := by omega
  have hf : f = 0 ∨ f = 1 ∨ f = 2 ∨ f = 3 := by omega
  rcases hp with rfl | rfl | rfl | rfl <;> rcases he with rfl | rfl | rfl | rfl <;> rcases hf with rfl | rfl | rfl | rfl <;> decide
theorem fin_ret {o : SO} {a : D} {r : SV} {cs : List SV} (h : o.fin [.d a] = .ret r cs) : cs = [.d a] := by
  cases o with
  | nx ρ => cases h; rfl
  | rt r ρ => cases h; rfl
  | ex x ρ => cases h
  | bk ρ => cases h
  | ct ρ => cases h
  | bad => cases h
theorem line_eq {s : St3} (hs : s ∈ grid) : m_line_of [.d (stD s)] = .ret (.d (.str (lineX s))) [.d (stD s)] := by
  have h := List.all_eq_true.mp lines_ok s hs
  have e : m_line_of [.d (stD s)] = _ := mDef_eq (nP := 1) (by rfl)
  cases ho : m_line_of [.d (stD s)] with
  | ret r cs =>
    rw [ho] at h e
    have := fin_ret e.symm
    subst this
    cases r with
    | o c => cases h
    | d y =>
      cases y with
      | str y =>
        have ey : y = lineX s := eq_of_beq h
        rw [ey]
      | _ => cases h
  | ex x cs => rw [ho] at h; cases h
  | bad => rw [ho] at h; cases h
theorem state_eq {s : St3} (hs : s ∈ grid) : m_state_in [.d (.str (lineX s))] = .ret (.d (stD s)) [.d (.str (lineX s))] := by
  have h := List.all_eq_true.mp states_ok s hs
  have e : m_state_in [.d (.str (lineX s))] = _ := mDef_eq (nP := 1) (by rfl)
  cases ho : m_state_in [.d (.str (lineX s))] with
  | ret r cs =>
    rw [ho] at h e
    have := fin_ret e.symm
    subst this
    unfold isTri at h
    split at h
    · rename_i a b c _ z
      cases z
      simp only [Bool.and_eq_true, beq_iff_eq] at h
      obtain ⟨⟨rfl, rfl⟩, rfl⟩ := h
      rfl
    · cases h
  | ex x cs => rw [ho] at h; cases h
  | bad => rw [ho] at h; cases h
/-! ### texts -/
def textX (R : List St3) : Str := Txt.join "\n" (R.map lineX)
theorem rgrid {H : Hs} {R : List St3} (hR : ROk H R) : ∀ s ∈ R, s ∈ grid := fun s hs => by
  obtain ⟨h1, h2, h3⟩ := hR.st s hs
  have hp : H.places ≤ 3 := by cases H <;> simp [Hs.places]
  have := hR.four
  exact mem_grid ⟨by omega, by omega, by omega⟩
theorem sum_le {R : List St3} (h : ∀ s ∈ R, (lineX s).length ≤ 40) : ((R.map lineX).map (·.length)).sum ≤ 40 * R.length := by
  induction R with
  | nil => simp
  | cons s R ih =>
    have h1 := h s List.mem_cons_self
    have h2 := ih fun t ht => h t (List.mem_cons_of_mem _ ht)
    simp only [List.map_cons, List.sum_cons, List.length_cons]
    omega
theorem line_facts {s : St3} (hs : s ∈ grid) : 10 ∉ (lineX s).cps.toList ∧ (∀ c ∈ (lineX s).cps.toList, c < 256) ∧ (lineX s).length ≤ 40 := by
  have h := List.all_eq_true.mp signs_ok s hs
  simp only [Bool.and_eq_true, Bool.not_eq_true', List.all_eq_true, decide_eq_true_eq] at h
  refine ⟨fun z => ?_, h.1.2, h.2⟩
  have := h.1.1
  rw [List.contains_iff_mem.mpr z] at this
  cases this
theorem joinX {H : Hs} {R : List St3} (hR : ROk H R) : gJoin "\n" (.lst ((R.map lineX).map D.str)) = some (.str (textX R)) := by
  unfold gJoin
  simp only [DL.strs?_map]
  have h1 := sum_le fun s hs => (line_facts (rgrid hR s hs)).2.2
  have h2 := hR.four
  have h3 : ("\n" : Str).length = 1 := by decide
  rw [if_pos (by rw [List.length_map, h3]; omega)]
  rfl
theorem textof_eq {H : Hs} {R : List St3} (hR : ROk H R) : m_text_of [.d (ruleD R)] = .ret (.d (.str (textX R))) [.d (ruleD R)] := by
  unfold m_text_of
  refine (mDef_eq (nP := 1) (by rfl)).trans ?_
  unfold pk_text_of
  have h4 := hR.four
  have hj := joinX hR
  have e0 : (R.map lineX).map D.str = (R.map stD).map fun d => match d with
    | .tup [.int a, .int b, .int c] => .str (lineX (a, b, c))
    | d => d := by
    rw [List.map_map, List.map_map]; rfl
  rw [e0] at hj
  simp only [bind_ok, bind_ex, thenS_ok, thenS_ex, of_some, mC_eq, kVar, mVar_eq, kMove, mMove_eq, kD, mD_eq, kF, mF_eq, kBin2, kBin, mBin_eq, kBinB2, kBinB, mBinB_eq, kB, mB_eq, kT, mT_eq, kChain3, kChainB, kChain2, kChain, mChain_eq, kAnd, mAnd_eq, kOr, mOr_eq, kNot, mNot_eq, kAndV, mAndV_eq, kOrV, mOrV_eq, kNotV, mNotV_eq, kIf, mIf_eq, mNil_eq, kCons2, kCons, mCons_eq, kTupD, mTup_eq, kLst, mLst_eq, kUn, mUn_eq, kFun, mFun_eq, kFunL2, kFunL, mFunL_eq, kCat, mCat_eq, catK2, kStr2, kStr1, mStr1_eq, kSplit2, kSplit, mSplit_eq, mNo_eq, kPart, mPart_eq, kSl3, kSl2, kSl, mSl_eq, mJs_nil, kJs, mJs_cons, kLenS, mLenS_eq, kIxS3, kIxS2, kIxS, mIxS_eq, aNil_eq, kA2, kA, aD_eq, kAS2, kAS, aS_eq, kCall3, kCall2, kCall, mCall_eq, sSkip_eq, sSeq_eq, seq_nx, seq_rt, seq_ex, seq_bk, seq_ct, kRet, sRet_eq, kExpr, sExpr_eq, kIfS, sIf_eq, kSet, sSet_eq, kPar, sPar_eq, opt_some, kAsg, sAsg_eq, kApp3, kApp2, kApp, sApp_eq, kPut4, kPut3, kPut2, kPut1, kPut, sPut_eq, fin_nx, fin_rt, fin_ex, loop_nx, loop_ct, loop_bk, loop_rt, loop_ex, forL_nil, kTurn, forL_cons, kFor, sFor_eq, kWh, kSeq, mSeq_eq, mRange1_eq, mRange2_eq, mYes_eq, lcopt_some, lcout_ok, lcL_nil, kLc3, kLc2, kLc1, lcL_cons, kLcEnd, kLc, mLc_eq, cEq_int, cNe_int, gAdd, gNeg, cI, gInt, gIx, gLen, gAbs, gMax2, gMin2, gTuple, gList, gAll, bls?, gStr, gIsi, D.ty, gN, gTupl, gsCons, gsNil, atI_0, atI_1, atI_2, atI_3, atI_4, atI_5, atI_6, ixN_0, ixN_1, back, lookA, Arg.look, slotsA, modesFrom, outsFrom, restore, wipeR, SV.toD, OC.toD, List.map_cons, List.map_nil, List.replicate_succ, List.replicate_zero, List.cons_append, List.nil_append, List.getElem?_cons_zero, List.getElem?_cons_succ, List.getElem?_nil, List.set_cons_zero, List.set_cons_succ, List.length_cons, List.length_nil, List.length_map, List.nodup_cons, List.nodup_nil, List.not_mem_nil, List.mem_cons, Option.bind_some, Option.map_some, ↓reduceIte, decide_true, decide_false, Bool.not_true, Bool.not_false, and_self, and_true, true_and, not_false_eq_true, not_true_eq_false, or_false, false_or, Bool.false_eq_true, Nat.sub_self, beq_self_eq_true, Int.reduceBEq, Int.reduceLT, Int.reduceLE, Nat.reduceSub, szl_0, szs_0, szl_1, szs_1, szl_2, szs_2, szl_3, szs_3, szl_4, szs_4, szl_5, szs_5, szl_6, szs_6, szl_7, szs_7, szl_8, szs_8, szl_9, szs_9, szl_10, szs_10, szl_11, szs_11, szl_12, szs_12, gSub_int, gMul_small, gDiv_small, gMod_pos, ruleD]
  rw [lcL_map (fun d => match d with
    | .tup [.int a, .int b, .int c] => .str (lineX (a, b, c))
    | d => d) _ _ (fun d hd => ?_) (by simp only [List.length_nil, List.length_map]; show _ ≤ 2 ^ 24; omega)]
  · simp only [bind_ok, bind_ex, thenS_ok, thenS_ex, of_some, mC_eq, kVar, mVar_eq, kMove, mMove_eq, kD, mD_eq, kF, mF_eq, kBin2, kBin, mBin_eq, kBinB2, kBinB, mBinB_eq, kB, mB_eq, kT, mT_eq, kChain3, kChainB, kChain2, kChain, mChain_eq, kAnd, mAnd_eq, kOr, mOr_eq, kNot, mNot_eq, kAndV, mAndV_eq, kOrV, mOrV_eq, kNotV, mNotV_eq, kIf, mIf_eq, mNil_eq, kCons2, kCons, mCons_eq, kTupD, mTup_eq, kLst, mLst_eq, kUn, mUn_eq, kFun, mFun_eq, kFunL2, kFunL, mFunL_eq, kCat, mCat_eq, catK2, kStr2, kStr1, mStr1_eq, kSplit2, kSplit, mSplit_eq, mNo_eq, kPart, mPart_eq, kSl3, kSl2, kSl, mSl_eq, mJs_nil, kJs, mJs_cons, kLenS, mLenS_eq, kIxS3, kIxS2, kIxS, mIxS_eq, aNil_eq, kA2, kA, aD_eq, kAS2, kAS, aS_eq, kCall3, kCall2, kCall, mCall_eq, sSkip_eq, sSeq_eq, seq_nx, seq_rt, seq_ex, seq_bk, seq_ct, kRet, sRet_eq, kExpr, sExpr_eq, kIfS, sIf_eq, kSet, sSet_eq, kPar, sPar_eq, opt_some, kAsg, sAsg_eq, kApp3, kApp2, kApp, sApp_eq, kPut4, kPut3, kPut2, kPut1, kPut, sPut_eq, fin_nx, fin_rt, fin_ex, loop_nx, loop_ct, loop_bk, loop_rt, loop_ex, forL_nil, kTurn, forL_cons, kFor, sFor_eq, kWh, kSeq, mSeq_eq, mRange1_eq, mRange2_eq, mYes_eq, lcopt_some, lcout_ok, lcL_nil, kLc3, kLc2, kLc1, lcL_cons, kLcEnd, kLc, mLc_eq, cEq_int, cNe_int, gAdd, gNeg, cI, gInt, gIx, gLen, gAbs, gMax2, gMin2, gTuple, gList, gAll, bls?, gStr, gIsi, D.ty, gN, gTupl, gsCons, gsNil, atI_0, atI_1, atI_2, atI_3, atI_4, atI_5, atI_6, ixN_0, ixN_1, back, lookA, Arg.look, slotsA, modesFrom, outsFrom, restore, wipeR, SV.toD, OC.toD, List.map_cons, List.map_nil, List.replicate_succ, List.replicate_zero, List.cons_append, List.nil_append, List.getElem?_cons_zero, List.getElem?_cons_succ, List.getElem?_nil, List.set_cons_zero, List.set_cons_succ, List.length_cons, List.length_nil, List.length_map, List.nodup_cons, List.nodup_nil, List.not_mem_nil, List.mem_cons, Option.bind_some, Option.map_some, ↓reduceIte, decide_true, decide_false, Bool.not_true, Bool.not_false, and_self, and_true, true_and, not_false_eq_true, not_true_eq_false, or_false, false_or, Bool.false_eq_true, Nat.sub_self, beq_self_eq_true, Int.reduceBEq, Int.reduceLT, Int.reduceLE, Nat.reduceSub, szl_0, szs_0, szl_1, szs_1, szl_2, szs_2, szl_3, szs_3, szl_4, szs_4, szl_5, szs_5, szl_6, szs_6, szl_7, szs_7, szl_8, szs_8, szl_9, szs_9, szl_10, szs_10, szl_11, szs_11, szl_12, szs_12, gSub_int, gMul_small, gDiv_small, gMod_pos, hj]
  · obtain ⟨s, hs, rfl⟩ := List.mem_map.mp hd
    refine ⟨_, rfl, rfl, ?_, rfl⟩
    have e1 : (match stD s with
      | .tup [.int a, .int b, .int c] => D.str (lineX (a, b, c))
      | d => d) = .str (lineX s) := rfl
    rw [e1]
    simp only [bind_ok, bind_ex, thenS_ok, thenS_ex, of_some, mC_eq, kVar, mVar_eq, kMove, mMove_eq, kD, mD_eq, kF, mF_eq, kBin2, kBin, mBin_eq, kBinB2, kBinB, mBinB_eq, kB, mB_eq, kT, mT_eq, kChain3, kChainB, kChain2, kChain, mChain_eq, kAnd, mAnd_eq, kOr, mOr_eq, kNot, mNot_eq, kAndV, mAndV_eq, kOrV, mOrV_eq, kNotV, mNotV_eq, kIf, mIf_eq, mNil_eq, kCons2, kCons, mCons_eq, kTupD, mTup_eq, kLst, mLst_eq, kUn, mUn_eq, kFun, mFun_eq, kFunL2, kFunL, mFunL_eq, kCat, mCat_eq, catK2, kStr2, kStr1, mStr1_eq, kSplit2, kSplit, mSplit_eq, mNo_eq, kPart, mPart_eq, kSl3, kSl2, kSl, mSl_eq, mJs_nil, kJs, mJs_cons, kLenS, mLenS_eq, kIxS3, kIxS2, kIxS, mIxS_eq, aNil_eq, kA2, kA, aD_eq, kAS2, kAS, aS_eq, kCall3, kCall2, kCall, mCall_eq, sSkip_eq, sSeq_eq, seq_nx, seq_rt, seq_ex, seq_bk, seq_ct, kRet, sRet_eq, kExpr, sExpr_eq, kIfS, sIf_eq, kSet, sSet_eq, kPar, sPar_eq, opt_some, kAsg, sAsg_eq, kApp3, kApp2, kApp, sApp_eq, kPut4, kPut3, kPut2, kPut1, kPut, sPut_eq, fin_nx, fin_rt, fin_ex, loop_nx, loop_ct, loop_bk, loop_rt, loop_ex, forL_nil, kTurn, forL_cons, kFor, sFor_eq, kWh, kSeq, mSeq_eq, mRange1_eq, mRange2_eq, mYes_eq, lcopt_some, lcout_ok, lcL_nil, kLc3, kLc2, kLc1, lcL_cons, kLcEnd, kLc, mLc_eq, cEq_int, cNe_int, gAdd, gNeg, cI, gInt, gIx, gLen, gAbs, gMax2, gMin2, gTuple, gList, gAll, bls?, gStr, gIsi, D.ty, gN, gTupl, gsCons, gsNil, atI_0, atI_1, atI_2, atI_3, atI_4, atI_5, atI_6, ixN_0, ixN_1, back, lookA, Arg.look, slotsA, modesFrom, outsFrom, restore, wipeR, SV.toD, OC.toD, List.map_cons, List.map_nil, List.replicate_succ, List.replicate_zero, List.cons_append, List.nil_append, List.getElem?_cons_zero, List.getElem?_cons_succ, List.getElem?_nil, List.set_cons_zero, List.set_cons_succ, List.length_cons, List.length_nil, List.length_map, List.nodup_cons, List.nodup_nil, List.not_mem_nil, List.mem_cons, Option.bind_some, Option.map_some, ↓reduceIte, decide_true, decide_false, Bool.not_true, Bool.not_false, and_self, and_true, true_and, not_false_eq_true, not_true_eq_false, or_false, false_or, Bool.false_eq_true, Nat.sub_self, beq_self_eq_true, Int.reduceBEq, Int.reduceLT, Int.reduceLE, Nat.reduceSub, szl_0, szs_0, szl_1, szs_1, szl_2, szs_2, szl_3, szs_3, szl_4, szs_4, szl_5, szs_5, szl_6, szs_6, szl_7, szs_7, szl_8, szs_8, szl_9, szs_9, szl_10, szs_10, szl_11, szs_11, szl_12, szs_12, gSub_int, gMul_small, gDiv_small, gMod_pos, line_eq (rgrid hR s hs)]
theorem ruletext_eq {H : Hs} {R : List St3} (hH : H.Ok) (hR : ROk H R) : m_rule_text [.d H.d, .d (ruleD R)] = .ret (.d (.str (textX R))) [.d H.d, .d (ruleD R)] := by
  unfold m_rule_text
  refine (mDef_eq (nP := 2) (by rfl)).trans ?_
  unfold pk_rule_text
  simp only [bind_ok, bind_ex, thenS_ok, thenS_ex, of_some, mC_eq, kVar, mVar_eq, kMove, mMove_eq, kD, mD_eq, kF, mF_eq, kBin2, kBin, mBin_eq, kBinB2, kBinB, mBinB_eq, kB, mB_eq, kT, mT_eq, kChain3, kChainB, kChain2, kChain, mChain_eq, kAnd, mAnd_eq, kOr, mOr_eq, kNot, mNot_eq, kAndV, mAndV_eq, kOrV, mOrV_eq, kNotV, mNotV_eq, kIf, mIf_eq, mNil_eq, kCons2, kCons, mCons_eq, kTupD, mTup_eq, kLst, mLst_eq, kUn, mUn_eq, kFun, mFun_eq, kFunL2, kFunL, mFunL_eq, kCat, mCat_eq, catK2, kStr2, kStr1, mStr1_eq, kSplit2, kSplit, mSplit_eq, mNo_eq, kPart, mPart_eq, kSl3, kSl2, kSl, mSl_eq, mJs_nil, kJs, mJs_cons, kLenS, mLenS_eq, kIxS3, kIxS2, kIxS, mIxS_eq, aNil_eq, kA2, kA, aD_eq, kAS2, kAS, aS_eq, kCall3, kCall2, kCall, mCall_eq, sSkip_eq, sSeq_eq, seq_nx, seq_rt, seq_ex, seq_bk, seq_ct, kRet, sRet_eq, kExpr, sExpr_eq, kIfS, sIf_eq, kSet, sSet_eq, kPar, sPar_eq, opt_some, kAsg, sAsg_eq, kApp3, kApp2, kApp, sApp_eq, kPut4, kPut3, kPut2, kPut1, kPut, sPut_eq, fin_nx, fin_rt, fin_ex, loop_nx, loop_ct, loop_bk, loop_rt, loop_ex, forL_nil, kTurn, forL_cons, kFor, sFor_eq, kWh, kSeq, mSeq_eq, mRange1_eq, mRange2_eq, mYes_eq, lcopt_some, lcout_ok, lcL_nil, kLc3, kLc2, kLc1, lcL_cons, kLcEnd, kLc, mLc_eq, cEq_int, cNe_int, gAdd, gNeg, cI, gInt, gIx, gLen, gAbs, gMax2, gMin2, gTuple, gList, gAll, bls?, gStr, gIsi, D.ty, gN, gTupl, gsCons, gsNil, atI_0, atI_1, atI_2, atI_3, atI_4, atI_5, atI_6, ixN_0, ixN_1, back, lookA, Arg.look, slotsA, modesFrom, outsFrom, restore, wipeR, SV.toD, OC.toD, List.map_cons, List.map_nil, List.replicate_succ, List.replicate_zero, List.cons_append, List.nil_append, List.getElem?_cons_zero, List.getElem?_cons_succ, List.getElem?_nil, List.set_cons_zero, List.set_cons_succ, List.length_cons, List.length_nil, List.length_map, List.nodup_cons, List.nodup_nil, List.not_mem_nil, List.mem_cons, Option.bind_some, Option.map_some, ↓reduceIte, decide_true, decide_false, Bool.not_true, Bool.not_false, and_self, and_true, true_and, not_false_eq_true, not_true_eq_false, or_false, false_or, Bool.false_eq_true, Nat.sub_self, beq_self_eq_true, Int.reduceBEq, Int.reduceLT, Int.reduceLE, Nat.reduceSub, szl_0, szs_0, szl_1, szs_1, szl_2, szs_2, szl_3, szs_3, szl_4, szs_4, szl_5, szs_5, szl_6, szs_6, szl_7, szs_7, szl_8, szs_8, szl_9, szs_9, szl_10, szs_10, szl_11, szs_11, szl_12, szs_12, gSub_int, gMul_small, gDiv_small, gMod_pos, needhouse_ok hH, needrule_ok hH hR, textof_eq hR]
theorem ruletext_list {H : Hs} {xs : List D} (hH : H.Ok) : m_rule_text [.d H.d, .d (.lst xs)] = .ex ⟨"InvalidRule", none⟩ [.d H.d, .d (.lst xs)] := by
  unfold m_rule_text
  refine (mDef_eq (nP := 2) (by rfl)).trans ?_
  unfold pk_rule_text
  simp only [bind_ok, bind_ex, thenS_ok, thenS_ex, of_some, mC_eq, kVar, mVar_eq, kMove, mMove_eq, kD, mD_eq, kF, mF_eq, kBin2, kBin, mBin_eq, kBinB2, kBinB, mBinB_eq, kB, mB_eq, kT, mT_eq, kChain3, kChainB, kChain2, kChain, mChain_eq, kAnd, mAnd_eq, kOr, mOr_eq, kNot, mNot_eq, kAndV, mAndV_eq, kOrV, mOrV_eq, kNotV, mNotV_eq, kIf, mIf_eq, mNil_eq, kCons2, kCons, mCons_eq, kTupD, mTup_eq, kLst, mLst_eq, kUn, mUn_eq, kFun, mFun_eq, kFunL2, kFunL, mFunL_eq, kCat, mCat_eq, catK2, kStr2, kStr1, mStr1_eq, kSplit2, kSplit, mSplit_eq, mNo_eq, kPart, mPart_eq, kSl3, kSl2, kSl, mSl_eq, mJs_nil, kJs, mJs_cons, kLenS, mLenS_eq, kIxS3, kIxS2, kIxS, mIxS_eq, aNil_eq, kA2, kA, aD_eq, kAS2, kAS, aS_eq, kCall3, kCall2, kCall, mCall_eq, sSkip_eq, sSeq_eq, seq_nx, seq_rt, seq_ex, seq_bk, seq_ct, kRet, sRet_eq, kExpr, sExpr_eq, kIfS, sIf_eq, kSet, sSet_eq, kPar, sPar_eq, opt_some, kAsg, sAsg_eq, kApp3, kApp2, kApp, sApp_eq, kPut4, kPut3, kPut2, kPut1, kPut, sPut_eq, fin_nx, fin_rt, fin_ex, loop_nx, loop_ct, loop_bk, loop_rt, loop_ex, forL_nil, kTurn, forL_cons, kFor, sFor_eq, kWh, kSeq, mSeq_eq, mRange1_eq, mRange2_eq, mYes_eq, lcopt_some, lcout_ok, lcL_nil, kLc3, kLc2, kLc1, lcL_cons, kLcEnd, kLc, mLc_eq, cEq_int, cNe_int, gAdd, gNeg, cI, gInt, gIx, gLen, gAbs, gMax2, gMin2, gTuple, gList, gAll, bls?, gStr, gIsi, D.ty, gN, gTupl, gsCons, gsNil, atI_0, atI_1, atI_2, atI_3, atI_4, atI_5, atI_6, ixN_0, ixN_1, back, lookA, Arg.look, slotsA, modesFrom, outsFrom, restore, wipeR, SV.toD, OC.toD, List.map_cons, List.map_nil, List.replicate_succ, List.replicate_zero, List.cons_append, List.nil_append, List.getElem?_cons_zero, List.getElem?_cons_succ, List.getElem?_nil, List.set_cons_zero, List.set_cons_succ, List.length_cons, List.length_nil, List.length_map, List.nodup_cons, List.nodup_nil, List.not_mem_nil, List.mem_cons, Option.bind_some, Option.map_some, ↓reduceIte, decide_true, decide_false, Bool.not_true, Bool.not_false, and_self, and_true, true_and, not_false_eq_true, not_true_eq_false, or_false, false_or, Bool.false_eq_true, Nat.sub_self, beq_self_eq_true, Int.reduceBEq, Int.reduceLT, Int.reduceLE, Nat.reduceSub, szl_0, szs_0, szl_1, szs_1, szl_2, szs_2, szl_3, szs_3, szl_4, szs_4, szl_5, szs_5, szl_6, szs_6, szl_7, szs_7, szl_8, szs_8, szl_9, szs_9, szl_10, szs_10, szl_11, szs_11, szl_12, szs_12, gSub_int, gMul_small, gDiv_small, gMod_pos, needhouse_ok hH, needrule_list]
theorem ruletext_non : m_rule_text [.d .non, .d .non] = .ex ⟨"InvalidHouse", none⟩ [.d .non, .d .non] := by
  unfold m_rule_text
  refine (mDef_eq (nP := 2) (by rfl)).trans ?_
  unfold pk_rule_text
  simp only [bind_ok, bind_ex, thenS_ok, thenS_ex, of_some, mC_eq, kVar, mVar_eq, kMove, mMove_eq, kD, mD_eq, kF, mF_eq, kBin2, kBin, mBin_eq, kBinB2, kBinB, mBinB_eq, kB, mB_eq, kT, mT_eq, kChain3, kChainB, kChain2, kChain, mChain_eq, kAnd, mAnd_eq, kOr, mOr_eq, kNot, mNot_eq, kAndV, mAndV_eq, kOrV, mOrV_eq, kNotV, mNotV_eq, kIf, mIf_eq, mNil_eq, kCons2, kCons, mCons_eq, kTupD, mTup_eq, kLst, mLst_eq, kUn, mUn_eq, kFun, mFun_eq, kFunL2, kFunL, mFunL_eq, kCat, mCat_eq, catK2, kStr2, kStr1, mStr1_eq, kSplit2, kSplit, mSplit_eq, mNo_eq, kPart, mPart_eq, kSl3, kSl2, kSl, mSl_eq, mJs_nil, kJs, mJs_cons, kLenS, mLenS_eq, kIxS3, kIxS2, kIxS, mIxS_eq, aNil_eq, kA2, kA, aD_eq, kAS2, kAS, aS_eq, kCall3, kCall2, kCall, mCall_eq, sSkip_eq, sSeq_eq, seq_nx, seq_rt, seq_ex, seq_bk, seq_ct, kRet, sRet_eq, kExpr, sExpr_eq, kIfS, sIf_eq, kSet, sSet_eq, kPar, sPar_eq, opt_some, kAsg, sAsg_eq, kApp3, kApp2, kApp, sApp_eq, kPut4, kPut3, kPut2, kPut1, kPut, sPut_eq, fin_nx, fin_rt, fin_ex, loop_nx, loop_ct, loop_bk, loop_rt, loop_ex, forL_nil, kTurn, forL_cons, kFor, sFor_eq, kWh, kSeq, mSeq_eq, mRange1_eq, mRange2_eq, mYes_eq, lcopt_some, lcout_ok, lcL_nil, kLc3, kLc2, kLc1, lcL_cons, kLcEnd, kLc, mLc_eq, cEq_int, cNe_int, gAdd, gNeg, cI, gInt, gIx, gLen, gAbs, gMax2, gMin2, gTuple, gList, gAll, bls?, gStr, gIsi, D.ty, gN, gTupl, gsCons, gsNil, atI_0, atI_1, atI_2, atI_3, atI_4, atI_5, atI_6, ixN_0, ixN_1, back, lookA, Arg.look, slotsA, modesFrom, outsFrom, restore, wipeR, SV.toD, OC.toD, List.map_cons, List.map_nil, List.replicate_succ, List.replicate_zero, List.cons_append, List.nil_append, List.getElem?_cons_zero, List.getElem?_cons_succ, List.getElem?_nil, List.set_cons_zero, List.set_cons_succ, List.length_cons, List.length_nil, List.length_map, List.nodup_cons, List.nodup_nil, List.not_mem_nil, List.mem_cons, Option.bind_some, Option.map_some, ↓reduceIte, decide_true, decide_false, Bool.not_true, Bool.not_false, and_self, and_true, true_and, not_false_eq_true, not_true_eq_false, or_false, false_or, Bool.false_eq_true, Nat.sub_self, beq_self_eq_true, Int.reduceBEq, Int.reduceLT, Int.reduceLE, Nat.reduceSub, szl_0, szs_0, szl_1, szs_1, szl_2, szs_2, szl_3, szs_3, szl_4, szs_4, szl_5, szs_5, szl_6, szs_6, szl_7, szs_7, szl_8, szs_8, szl_9, szs_9, szl_10, szs_10, szl_11, szs_11, szl_12, szs_12, gSub_int, gMul_small, gDiv_small, gMod_pos, needhouse_non]
theorem readrule_cut {a b x : D} : m_read_rule [.d (.tup [a, b]), .d x] = .ex ⟨"InvalidHouse", none⟩ [.d (.tup [a, b]), .d x] := by
  unfold m_read_rule
  refine (mDef_eq (nP := 2) (by rfl)).trans ?_
  unfold pk_read_rule
  simp only [bind_ok, bind_ex, thenS_ok, thenS_ex, of_some, mC_eq, kVar, mVar_eq, kMove, mMove_eq, kD, mD_eq, kF, mF_eq, kBin2, kBin, mBin_eq, kBinB2, kBinB, mBinB_eq, kB, mB_eq, kT, mT_eq, kChain3, kChainB, kChain2, kChain, mChain_eq, kAnd, mAnd_eq, kOr, mOr_eq, kNot, mNot_eq, kAndV, mAndV_eq, kOrV, mOrV_eq, kNotV, mNotV_eq, kIf, mIf_eq, mNil_eq, kCons2, kCons, mCons_eq, kTupD, mTup_eq, kLst, mLst_eq, kUn, mUn_eq, kFun, mFun_eq, kFunL2, kFunL, mFunL_eq, kCat, mCat_eq, catK2, kStr2, kStr1, mStr1_eq, kSplit2, kSplit, mSplit_eq, mNo_eq, kPart, mPart_eq, kSl3, kSl2, kSl, mSl_eq, mJs_nil, kJs, mJs_cons, kLenS, mLenS_eq, kIxS3, kIxS2, kIxS, mIxS_eq, aNil_eq, kA2, kA, aD_eq, kAS2, kAS, aS_eq, kCall3, kCall2, kCall, mCall_eq, sSkip_eq, sSeq_eq, seq_nx, seq_rt, seq_ex, seq_bk, seq_ct, kRet, sRet_eq, kExpr, sExpr_eq, kIfS, sIf_eq, kSet, sSet_eq, kPar, sPar_eq, opt_some, kAsg, sAsg_eq, kApp3, kApp2, kApp, sApp_eq, kPut4, kPut3, kPut2, kPut1, kPut, sPut_eq, fin_nx, fin_rt, fin_ex, loop_nx, loop_ct, loop_bk, loop_rt, loop_ex, forL_nil, kTurn, forL_cons, kFor, sFor_eq, kWh, kSeq, mSeq_eq, mRange1_eq, mRange2_eq, mYes_eq, lcopt_some, lcout_ok, lcL_nil, kLc3, kLc2, kLc1, lcL_cons, kLcEnd, kLc, mLc_eq, cEq_int, cNe_int, gAdd, gNeg, cI, gInt, gIx, gLen, gAbs, gMax2, gMin2, gTuple, gList, gAll, bls?, gStr, gIsi, D.ty, gN, gTupl, gsCons, gsNil, atI_0, atI_1, atI_2, atI_3, atI_4, atI_5, atI_6, ixN_0, ixN_1, back, lookA, Arg.look, slotsA, modesFrom, outsFrom, restore, wipeR, SV.toD, OC.toD, List.map_cons, List.map_nil, List.replicate_succ, List.replicate_zero, List.cons_append, List.nil_append, List.getElem?_cons_zero, List.getElem?_cons_succ, List.getElem?_nil, List.set_cons_zero, List.set_cons_succ, List.length_cons, List.length_nil, List.length_map, List.nodup_cons, List.nodup_nil, List.not_mem_nil, List.mem_cons, Option.bind_some, Option.map_some, ↓reduceIte, decide_true, decide_false, Bool.not_true, Bool.not_false, and_self, and_true, true_and, not_false_eq_true, not_true_eq_false, or_false, false_or, Bool.false_eq_true, Nat.sub_self, beq_self_eq_true, Int.reduceBEq, Int.reduceLT, Int.reduceLE, Nat.reduceSub, szl_0, szs_0, szl_1, szs_1, szl_2, szs_2, szl_3, szs_3, szl_4, szs_4, szl_5, szs_5, szl_6, szs_6, szl_7, szs_7, szl_8, szs_8, szl_9, szs_9, szl_10, szs_10, szl_11, szs_11, szl_12, szs_12, gSub_int, gMul_small, gDiv_small, gMod_pos, needhouse_cut]
end Lw
namespace Lw
open PySem PySem.Spec PyProof.Rows L2 L2H DL DH HotX LamX PySem.PyData TL
/-! ### reading back -/
theorem joinL_len {S : List Nat} : ∀ {ps : List (List Nat)}, (joinL S ps).length ≤ (ps.map List.length).sum + ps.length * S.length
  | [] => by simp [joinL]
  | [p] => by simp [joinL]
  | p :: q :: r => by
    have ih := joinL_len (S := S) (ps := q :: r)
    simp only [joinL, List.length_append, List.map_cons, List.sum_cons, List.length_cons] at ih ⊢
    have : (r.length + 1 + 1) * S.length = S.length + (r.length + 1) * S.length := by rw [Nat.add_mul, Nat.one_mul, Nat.add_comm]
    omega
theorem joinL_mem {S : List Nat} {c : Nat} : ∀ {ps : List (List Nat)}, c ∈ joinL S ps → c ∈ S ∨ ∃ p ∈ ps, c ∈ p
  | [], h => by cases h
  | [p], h => .inr ⟨p, List.mem_singleton_self _, h⟩
  | p :: q :: r, h => by
    simp only [joinL, List.mem_append] at h
    rcases h with h | h | h
    · exact .inr ⟨p, List.mem_cons_self, h⟩
    · exact .inl h
    · rcases joinL_mem (ps := q :: r) h with h | ⟨p', hp, h⟩
      · exact .inl h
      · exact .inr ⟨p', List.mem_cons_of_mem _ hp, h⟩
theorem tl_nl : tl ("\n" : Str) = [10] := by decide
theorem tl_textX (R : List St3) : tl (textX R) = joinL [10] ((R.map lineX).map tl) := by
  unfold textX
  rw [join_eq, tl_join, tl_nl]
theorem text_len {H : Hs} {R : List St3} (hR : ROk H R) : (textX R).length + 2 ≤ sizeLine := by
  have h1 := sum_le fun s hs => (line_facts (rgrid hR s hs)).2.2
  have h2 := hR.four
  have h3 : (textX R).length = (tl (textX R)).length := (len_tl _)
  have h4 := joinL_len (S := [10]) (ps := (R.map lineX).map tl)
  rw [← tl_textX] at h4
  have h5 : (((R.map lineX).map tl).map List.length) = ((R.map lineX).map (·.length)) := by
    rw [List.map_map]
    exact List.map_congr_left fun x _ => (len_tl x).symm
  rw [h5] at h4
  simp only [List.length_map, List.length_singleton] at h4
  show _ ≤ 2 ^ 24
  omega
theorem text_ok {H : Hs} {R : List St3} (hR : ROk H R) : strOk (textX R) = true := by
  have h : ∀ c ∈ tl (textX R), c < 0x110000 := fun c hc => by
    rw [tl_textX] at hc
    rcases joinL_mem hc with h | ⟨p, hp, h⟩
    · simp at h; omega
    · obtain ⟨x, hx, rfl⟩ := List.mem_map.mp hp
      obtain ⟨s, hs, rfl⟩ := List.mem_map.mp hx
      have := (line_facts (rgrid hR s hs)).2.1 c h
      omega
  unfold strOk
  rw [Array.all_eq_true']
  intro c hc
  exact decide_eq_true (h c (by simpa [tl] using hc))
theorem split_text {H : Hs} {R : List St3} (hR : ROk H R) : Txt.split (textX R) "\n" = R.map lineX := by
  refine split_join tl_nl (by decide +kernel) ?_ fun p hp => ?_
  · have h1 := hR.one
    intro e
    rw [List.map_eq_nil_iff.mp e] at h1
    simp at h1
  · obtain ⟨s, hs, rfl⟩ := List.mem_map.mp hp
    exact (line_facts (rgrid hR s hs)).1
theorem cNe_str {x : Str} (h : strOk x = true) : cNe (.str x) (.str x) = some false := by
  unfold cNe
  simp only [pd]
  have s : SeqAt.shaped (.str x) = true := by
    unfold SeqAt.shaped PyData.canLay0
    rw [h]
    rfl
  rw [s]
  simp only [Bool.and_self, if_true, PyData.eqv, beq_self_eq_true, Bool.not_true]
theorem readrule_eq {H : Hs} {R : List St3} (hH : H.Ok) (hR : ROk H R) : m_read_rule [.d H.d, .d (.str (textX R))] = .ret (.d (ruleD R)) [.d H.d, .d (.str (textX R))] := by
  unfold m_read_rule
  refine (mDef_eq (nP := 2) (by rfl)).trans ?_
  unfold pk_read_rule
  have h4 := hR.four
  have hnl : (("\n" : Str).length == 0) = false := by decide
  simp only [bind_ok, bind_ex, thenS_ok, thenS_ex, of_some, mC_eq, kVar, mVar_eq, kMove, mMove_eq, kD, mD_eq, kF, mF_eq, kBin2, kBin, mBin_eq, kBinB2, kBinB, mBinB_eq, kB, mB_eq, kT, mT_eq, kChain3, kChainB, kChain2, kChain, mChain_eq, kAnd, mAnd_eq, kOr, mOr_eq, kNot, mNot_eq, kAndV, mAndV_eq, kOrV, mOrV_eq, kNotV, mNotV_eq, kIf, mIf_eq, mNil_eq, kCons2, kCons, mCons_eq, kTupD, mTup_eq, kLst, mLst_eq, kUn, mUn_eq, kFun, mFun_eq, kFunL2, kFunL, mFunL_eq, kCat, mCat_eq, catK2, kStr2, kStr1, mStr1_eq, kSplit2, kSplit, mSplit_eq, mNo_eq, kPart, mPart_eq, kSl3, kSl2, kSl, mSl_eq, mJs_nil, kJs, mJs_cons, kLenS, mLenS_eq, kIxS3, kIxS2, kIxS, mIxS_eq, aNil_eq, kA2, kA, aD_eq, kAS2, kAS, aS_eq, kCall3, kCall2, kCall, mCall_eq, sSkip_eq, sSeq_eq, seq_nx, seq_rt, seq_ex, seq_bk, seq_ct, kRet, sRet_eq, kExpr, sExpr_eq, kIfS, sIf_eq, kSet, sSet_eq, kPar, sPar_eq, opt_some, kAsg, sAsg_eq, kApp3, kApp2, kApp, sApp_eq, kPut4, kPut3, kPut2, kPut1, kPut, sPut_eq, fin_nx, fin_rt, fin_ex, loop_nx, loop_ct, loop_bk, loop_rt, loop_ex, forL_nil, kTurn, forL_cons, kFor, sFor_eq, kWh, kSeq, mSeq_eq, mRange1_eq, mRange2_eq, mYes_eq, lcopt_some, lcout_ok, lcL_nil, kLc3, kLc2, kLc1, lcL_cons, kLcEnd, kLc, mLc_eq, cEq_int, cNe_int, gAdd, gNeg, cI, gInt, gIx, gLen, gAbs, gMax2, gMin2, gTuple, gList, gAll, bls?, gStr, gIsi, D.ty, gN, gTupl, gsCons, gsNil, atI_0, atI_1, atI_2, atI_3, atI_4, atI_5, atI_6, ixN_0, ixN_1, back, lookA, Arg.look, slotsA, modesFrom, outsFrom, restore, wipeR, SV.toD, OC.toD, List.map_cons, List.map_nil, List.replicate_succ, List.replicate_zero, List.cons_append, List.nil_append, List.getElem?_cons_zero, List.getElem?_cons_succ, List.getElem?_nil, List.set_cons_zero, List.set_cons_succ, List.length_cons, List.length_nil, List.length_map, List.nodup_cons, List.nodup_nil, List.not_mem_nil, List.mem_cons, Option.bind_some, Option.map_some, ↓reduceIte, decide_true, decide_false, Bool.not_true, Bool.not_false, and_self, and_true, true_and, not_false_eq_true, not_true_eq_false, or_false, false_or, Bool.false_eq_true, Nat.sub_self, beq_self_eq_true, Int.reduceBEq, Int.reduceLT, Int.reduceLE, Nat.reduceSub, szl_0, szs_0, szl_1, szs_1, szl_2, szs_2, szl_3, szs_3, szl_4, szs_4, szl_5, szs_5, szl_6, szs_6, szl_7, szs_7, szl_8, szs_8, szl_9, szs_9, szl_10, szs_10, szl_11, szs_11, szl_12, szs_12, gSub_int, gMul_small, gDiv_small, gMod_pos, needhouse_ok hH, ks_str, hnl, text_len hR, split_text hR]
  have hm : (R.map lineX).map D.str = R.map fun s => D.str (lineX s) := by rw [List.map_map]; rfl
  rw [hm, lcL_two (fun s => D.str (lineX s)) stD R [] (fun s hs => ?_) (by simp only [List.length_nil]; show _ ≤ 2 ^ 24; omega)]
  · have i1 := isrule_eq hH hR
    have t1 := textof_eq hR
    unfold ruleD at i1 t1
    simp only [bind_ok, bind_ex, thenS_ok, thenS_ex, of_some, mC_eq, kVar, mVar_eq, kMove, mMove_eq, kD, mD_eq, kF, mF_eq, kBin2, kBin, mBin_eq, kBinB2, kBinB, mBinB_eq, kB, mB_eq, kT, mT_eq, kChain3, kChainB, kChain2, kChain, mChain_eq, kAnd, mAnd_eq, kOr, mOr_eq, kNot, mNot_eq, kAndV, mAndV_eq, kOrV, mOrV_eq, kNotV, mNotV_eq, kIf, mIf_eq, mNil_eq, kCons2, kCons, mCons_eq, kTupD, mTup_eq, kLst, mLst_eq, kUn, mUn_eq, kFun, mFun_eq, kFunL2, kFunL, mFunL_eq, kCat, mCat_eq, catK2, kStr2, kStr1, mStr1_eq, kSplit2, kSplit, mSplit_eq, mNo_eq, kPart, mPart_eq, kSl3, kSl2, kSl, mSl_eq, mJs_nil, kJs, mJs_cons, kLenS, mLenS_eq, kIxS3, kIxS2, kIxS, mIxS_eq, aNil_eq, kA2, kA, aD_eq, kAS2, kAS, aS_eq, kCall3, kCall2, kCall, mCall_eq, sSkip_eq, sSeq_eq, seq_nx, seq_rt, seq_ex, seq_bk, seq_ct, kRet, sRet_eq, kExpr, sExpr_eq, kIfS, sIf_eq, kSet, sSet_eq, kPar, sPar_eq, opt_some, kAsg, sAsg_eq, kApp3, kApp2, kApp, sApp_eq, kPut4, kPut3, kPut2, kPut1, kPut, sPut_eq, fin_nx, fin_rt, fin_ex, loop_nx, loop_ct, loop_bk, loop_rt, loop_ex, forL_nil, kTurn, forL_cons, kFor, sFor_eq, kWh, kSeq, mSeq_eq, mRange1_eq, mRange2_eq, mYes_eq, lcopt_some, lcout_ok, lcL_nil, kLc3, kLc2, kLc1, lcL_cons, kLcEnd, kLc, mLc_eq, cEq_int, cNe_int, gAdd, gNeg, cI, gInt, gIx, gLen, gAbs, gMax2, gMin2, gTuple, gList, gAll, bls?, gStr, gIsi, D.ty, gN, gTupl, gsCons, gsNil, atI_0, atI_1, atI_2, atI_3, atI_4, atI_5, atI_6, ixN_0, ixN_1, back, lookA, Arg.look, slotsA, modesFrom, outsFrom, restore, wipeR, SV.toD, OC.toD, List.map_cons, List.map_nil, List.replicate_succ, List.replicate_zero, List.cons_append, List.nil_append, List.getElem?_cons_zero, List.getElem?_cons_succ, List.getElem?_nil, List.set_cons_zero, List.set_cons_succ, List.length_cons, List.length_nil, List.length_map, List.nodup_cons, List.nodup_nil, List.not_mem_nil, List.mem_cons, Option.bind_some, Option.map_some, ↓reduceIte, decide_true, decide_false, Bool.not_true, Bool.not_false, and_self, and_true, true_and, not_false_eq_true, not_true_eq_false, or_false, false_or, Bool.false_eq_true, Nat.sub_self, beq_self_eq_true, Int.reduceBEq, Int.reduceLT, Int.reduceLE, Nat.reduceSub, szl_0, szs_0, szl_1, szs_1, szl_2, szs_2, szl_3, szs_3, szl_4, szs_4, szl_5, szs_5, szl_6, szs_6, szl_7, szs_7, szl_8, szs_8, szl_9, szs_9, szl_10, szs_10, szl_11, szs_11, szl_12, szs_12, gSub_int, gMul_small, gDiv_small, gMod_pos, i1, t1, cNe_str (text_ok hR), ruleD]
  · refine ⟨_, rfl, rfl, ?_, rfl⟩
    simp only [bind_ok, bind_ex, thenS_ok, thenS_ex, of_some, mC_eq, kVar, mVar_eq, kMove, mMove_eq, kD, mD_eq, kF, mF_eq, kBin2, kBin, mBin_eq, kBinB2, kBinB, mBinB_eq, kB, mB_eq, kT, mT_eq, kChain3, kChainB, kChain2, kChain, mChain_eq, kAnd, mAnd_eq, kOr, mOr_eq, kNot, mNot_eq, kAndV, mAndV_eq, kOrV, mOrV_eq, kNotV, mNotV_eq, kIf, mIf_eq, mNil_eq, kCons2, kCons, mCons_eq, kTupD, mTup_eq, kLst, mLst_eq, kUn, mUn_eq, kFun, mFun_eq, kFunL2, kFunL, mFunL_eq, kCat, mCat_eq, catK2, kStr2, kStr1, mStr1_eq, kSplit2, kSplit, mSplit_eq, mNo_eq, kPart, mPart_eq, kSl3, kSl2, kSl, mSl_eq, mJs_nil, kJs, mJs_cons, kLenS, mLenS_eq, kIxS3, kIxS2, kIxS, mIxS_eq, aNil_eq, kA2, kA, aD_eq, kAS2, kAS, aS_eq, kCall3, kCall2, kCall, mCall_eq, sSkip_eq, sSeq_eq, seq_nx, seq_rt, seq_ex, seq_bk, seq_ct, kRet, sRet_eq, kExpr, sExpr_eq, kIfS, sIf_eq, kSet, sSet_eq, kPar, sPar_eq, opt_some, kAsg, sAsg_eq, kApp3, kApp2, kApp, sApp_eq, kPut4, kPut3, kPut2, kPut1, kPut, sPut_eq, fin_nx, fin_rt, fin_ex, loop_nx, loop_ct, loop_bk, loop_rt, loop_ex, forL_nil, kTurn, forL_cons, kFor, sFor_eq, kWh, kSeq, mSeq_eq, mRange1_eq, mRange2_eq, mYes_eq, lcopt_some, lcout_ok, lcL_nil, kLc3, kLc2, kLc1, lcL_cons, kLcEnd, kLc, mLc_eq, cEq_int, cNe_int, gAdd, gNeg, cI, gInt, gIx, gLen, gAbs, gMax2, gMin2, gTuple, gList, gAll, bls?, gStr, gIsi, D.ty, gN, gTupl, gsCons, gsNil, atI_0, atI_1, atI_2, atI_3, atI_4, atI_5, atI_6, ixN_0, ixN_1, back, lookA, Arg.look, slotsA, modesFrom, outsFrom, restore, wipeR, SV.toD, OC.toD, List.map_cons, List.map_nil, List.replicate_succ, List.replicate_zero, List.cons_append, List.nil_append, List.getElem?_cons_zero, List.getElem?_cons_succ, List.getElem?_nil, List.set_cons_zero, List.set_cons_succ, List.length_cons, List.length_nil, List.length_map, List.nodup_cons, List.nodup_nil, List.not_mem_nil, List.mem_cons, Option.bind_some, Option.map_some, ↓reduceIte, decide_true, decide_false, Bool.not_true, Bool.not_false, and_self, and_true, true_and, not_false_eq_true, not_true_eq_false, or_false, false_or, Bool.false_eq_true, Nat.sub_self, beq_self_eq_true, Int.reduceBEq, Int.reduceLT, Int.reduceLE, Nat.reduceSub, szl_0, szs_0, szl_1, szs_1, szl_2, szs_2, szl_3, szs_3, szl_4, szs_4, szl_5, szs_5, szl_6, szs_6, szl_7, szs_7, szl_8, szs_8, szl_9, szs_9, szl_10, szs_10, szl_11, szs_11, szl_12, szs_12, gSub_int, gMul_small, gDiv_small, gMod_pos, state_eq (rgrid hR s hs)]
end Lw
namespace Lw
open PySem PySem.Spec PyProof.Rows L2 L2H DL DH HotX LamX
/-! ### the law's own text -/
theorem sums_ok : (grid.all fun s => decide (s.1.natAbs.log2 < 1920 ∧ s.2.1.natAbs.log2 < 1920 ∧ s.2.2.natAbs.log2 < 1920 ∧ ("look at " : Str).length + (numS s.1).length ≤ sizeLine ∧ (("look at " : Str) ++ numS s.1).length + (" then " : Str).length ≤ sizeLine ∧ ((("look at " : Str) ++ numS s.1) ++ (" then " : Str)).length + (numS s.2.1).length ≤ sizeLine
    ∧ (("look at " : Str) ++ numS s.1).length + (" empty " : Str).length ≤ sizeLine ∧ ((("look at " : Str) ++ numS s.1) ++ (" empty " : Str)).length + (numS s.2.1).length ≤ sizeLine ∧ (((("look at " : Str) ++ numS s.1) ++ (" empty " : Str)) ++ numS s.2.1).length + (" found " : Str).length ≤ sizeLine ∧ ((((("look at " : Str) ++ numS s.1) ++ (" empty " : Str)) ++ numS s.2.1) ++ (" found " : Str)).length + (numS s.2.2).length ≤ sizeLine)) = true := by decide +kernel
theorem lawtext_eq {H : Hs} {R : List St3} (hR : ROk H R) : m__law_text_of [.d (ruleD R)] = .ret (.d (.str (textX R))) [.d (ruleD R)] := by
  unfold m__law_text_of
  refine (mDef_eq (nP := 1) (by rfl)).trans ?_
  unfold pk__law_text_of
  simp only [bind_ok, bind_ex, thenS_ok, thenS_ex, of_some, mC_eq, kVar, mVar_eq, kMove, mMove_eq, kD, mD_eq, kF, mF_eq, kBin2, kBin, mBin_eq, kBinB2, kBinB, mBinB_eq, kB, mB_eq, kT, mT_eq, kChain3, kChainB, kChain2, kChain, mChain_eq, kAnd, mAnd_eq, kOr, mOr_eq, kNot, mNot_eq, kAndV, mAndV_eq, kOrV, mOrV_eq, kNotV, mNotV_eq, kIf, mIf_eq, mNil_eq, kCons2, kCons, mCons_eq, kTupD, mTup_eq, kLst, mLst_eq, kUn, mUn_eq, kFun, mFun_eq, kFunL2, kFunL, mFunL_eq, kCat, mCat_eq, catK2, kStr2, kStr1, mStr1_eq, kSplit2, kSplit, mSplit_eq, mNo_eq, kPart, mPart_eq, kSl3, kSl2, kSl, mSl_eq, mJs_nil, kJs, mJs_cons, kLenS, mLenS_eq, kIxS3, kIxS2, kIxS, mIxS_eq, aNil_eq, kA2, kA, aD_eq, kAS2, kAS, aS_eq, kCall3, kCall2, kCall, mCall_eq, sSkip_eq, sSeq_eq, seq_nx, seq_rt, seq_ex, seq_bk, seq_ct, kRet, sRet_eq, kExpr, sExpr_eq, kIfS, sIf_eq, kSet, sSet_eq, kPar, sPar_eq, opt_some, kAsg, sAsg_eq, kApp3, kApp2, kApp, sApp_eq, kPut4, kPut3, kPut2, kPut1, kPut, sPut_eq, fin_nx, fin_rt, fin_ex, loop_nx, loop_ct, loop_bk, loop_rt, loop_ex, forL_nil, kTurn, forL_cons, kFor, sFor_eq, kWh, kSeq, mSeq_eq, mRange1_eq, mRange2_eq, mYes_eq, lcopt_some, lcout_ok, lcL_nil, kLc3, kLc2, kLc1, lcL_cons, kLcEnd, kLc, mLc_eq, cEq_int, cNe_int, gAdd, gNeg, cI, gInt, gIx, gLen, gAbs, gMax2, gMin2, gTuple, gList, gAll, bls?, gStr, gIsi, D.ty, gN, gTupl, gsCons, gsNil, atI_0, atI_1, atI_2, atI_3, atI_4, atI_5, atI_6, ixN_0, ixN_1, back, lookA, Arg.look, slotsA, modesFrom, outsFrom, restore, wipeR, SV.toD, OC.toD, List.map_cons, List.map_nil, List.replicate_succ, List.replicate_zero, List.cons_append, List.nil_append, List.getElem?_cons_zero, List.getElem?_cons_succ, List.getElem?_nil, List.set_cons_zero, List.set_cons_succ, List.length_cons, List.length_nil, List.length_map, List.nodup_cons, List.nodup_nil, List.not_mem_nil, List.mem_cons, Option.bind_some, Option.map_some, ↓reduceIte, decide_true, decide_false, Bool.not_true, Bool.not_false, and_self, and_true, true_and, not_false_eq_true, not_true_eq_false, or_false, false_or, Bool.false_eq_true, Nat.sub_self, beq_self_eq_true, Int.reduceBEq, Int.reduceLT, Int.reduceLE, Nat.reduceSub, szl_0, szs_0, szl_1, szs_1, szl_2, szs_2, szl_3, szs_3, szl_4, szs_4, szl_5, szs_5, szl_6, szs_6, szl_7, szs_7, szl_8, szs_8, szl_9, szs_9, szl_10, szs_10, szl_11, szs_11, szl_12, szs_12, gSub_int, gMul_small, gDiv_small, gMod_pos, ruleD]
  obtain ⟨ρ', e, done, x, y, z, w, hd, hρ⟩ := forL_inv (gt := gTupl 3 (gsCons (gN 2) (gsCons (gN 3) (gsCons (gN 4) gsNil)))) (b := (sSeq (sSet 5 (mD (mBin gAdd (mC (D.str "look at ")) (mFun gStr (mCons (mVar 2) mNil))))) (sSeq (sIf (mBinB cEq (mVar 3) (mVar 4))
      (sSet 5 (mD (mBin gAdd (mBin gAdd (mVar 5) (mC (D.str " then "))) (mFun gStr (mCons (mVar 3) mNil)))))
      (sSet 5 (mD (mBin gAdd (mBin gAdd (mBin gAdd (mBin gAdd (mVar 5) (mC (D.str " empty "))) (mFun gStr (mCons (mVar 3) mNil))) (mC (D.str " found "))) (mFun gStr (mCons (mVar 4) mNil)))))) (sApp 1 (mVar 5))))) stD
    (fun rest ρ => ∃ (done : List St3) (x y z w : Option SV), done ++ rest = R ∧ ρ = [some (SV.d (D.tup (List.map stD R))), some (SV.o (OC.lst ((done.map lineX).map D.str))), x, y, z, w]) (fun s rest ρ ⟨done, x, y, z, w, hd, hρ⟩ => by
      subst hρ
      have hs : s ∈ grid := rgrid hR s (by rw [← hd]; simp)
      have hf := of_decide_eq_true (List.all_eq_true.mp sums_ok s hs)
      simp only [numS] at hf
      obtain ⟨f1, f2, f3, f4, f5, f6, f7, f8, f9, f10⟩ := hf
      have hl : done.length < 1000 := by
        have h1 := hR.four
        rw [← hd] at h1
        simp at h1
        omega
      have hlt : ((done.map lineX).map D.str).length < sizeLine := by rw [List.length_map, List.length_map]; show _ < 2 ^ 24; omega
      obtain ⟨p, e, f⟩ := s
      refine ⟨[some (SV.d (D.tup (List.map stD R))), some (SV.o (OC.lst ((done.map lineX).map D.str))), some (.d (.int p)), some (.d (.int e)), some (.d (.int f)), w], [some (SV.d (D.tup (List.map stD R))), some (SV.o (OC.lst (((done ++ [(p, e, f)]).map lineX).map D.str))), some (.d (.int p)), some (.d (.int e)), some (.d (.int f)), some (.d (.str (lineX (p, e, f))))], rfl, ?_, done ++ [(p, e, f)], _, _, _, _, by rw [← hd]; simp, rfl⟩
      simp only [List.map_append, List.map_cons, List.map_nil]
      rw [List.length_map, List.length_map] at hlt
      by_cases c : e = f
      · have c' : (e == f) = true := beq_iff_eq.mpr c
        simp only [bind_ok, bind_ex, thenS_ok, thenS_ex, of_some, mC_eq, kVar, mVar_eq, kMove, mMove_eq, kD, mD_eq, kF, mF_eq, kBin2, kBin, mBin_eq, kBinB2, kBinB, mBinB_eq, kB, mB_eq, kT, mT_eq, kChain3, kChainB, kChain2, kChain, mChain_eq, kAnd, mAnd_eq, kOr, mOr_eq, kNot, mNot_eq, kAndV, mAndV_eq, kOrV, mOrV_eq, kNotV, mNotV_eq, kIf, mIf_eq, mNil_eq, kCons2, kCons, mCons_eq, kTupD, mTup_eq, kLst, mLst_eq, kUn, mUn_eq, kFun, mFun_eq, kFunL2, kFunL, mFunL_eq, kCat, mCat_eq, catK2, kStr2, kStr1, mStr1_eq, kSplit2, kSplit, mSplit_eq, mNo_eq, kPart, mPart_eq, kSl3, kSl2, kSl, mSl_eq, mJs_nil, kJs, mJs_cons, kLenS, mLenS_eq, kIxS3, kIxS2, kIxS, mIxS_eq, aNil_eq, kA2, kA, aD_eq, kAS2, kAS, aS_eq, kCall3, kCall2, kCall, mCall_eq, sSkip_eq, sSeq_eq, seq_nx, seq_rt, seq_ex, seq_bk, seq_ct, kRet, sRet_eq, kExpr, sExpr_eq, kIfS, sIf_eq, kSet, sSet_eq, kPar, sPar_eq, opt_some, kAsg, sAsg_eq, kApp3, kApp2, kApp, sApp_eq, kPut4, kPut3, kPut2, kPut1, kPut, sPut_eq, fin_nx, fin_rt, fin_ex, loop_nx, loop_ct, loop_bk, loop_rt, loop_ex, forL_nil, kTurn, forL_cons, kFor, sFor_eq, kWh, kSeq, mSeq_eq, mRange1_eq, mRange2_eq, mYes_eq, lcopt_some, lcout_ok, lcL_nil, kLc3, kLc2, kLc1, lcL_cons, kLcEnd, kLc, mLc_eq, cEq_int, cNe_int, gAdd, gNeg, cI, gInt, gIx, gLen, gAbs, gMax2, gMin2, gTuple, gList, gAll, bls?, gStr, gIsi, D.ty, gN, gTupl, gsCons, gsNil, atI_0, atI_1, atI_2, atI_3, atI_4, atI_5, atI_6, ixN_0, ixN_1, back, lookA, Arg.look, slotsA, modesFrom, outsFrom, restore, wipeR, SV.toD, OC.toD, List.map_cons, List.map_nil, List.replicate_succ, List.replicate_zero, List.cons_append, List.nil_append, List.getElem?_cons_zero, List.getElem?_cons_succ, List.getElem?_nil, List.set_cons_zero, List.set_cons_succ, List.length_cons, List.length_nil, List.length_map, List.nodup_cons, List.nodup_nil, List.not_mem_nil, List.mem_cons, Option.bind_some, Option.map_some, ↓reduceIte, decide_true, decide_false, Bool.not_true, Bool.not_false, and_self, and_true, true_and, not_false_eq_true, not_true_eq_false, or_false, false_or, Bool.false_eq_true, Nat.sub_self, beq_self_eq_true, Int.reduceBEq, Int.reduceLT, Int.reduceLE, Nat.reduceSub, szl_0, szs_0, szl_1, szs_1, szl_2, szs_2, szl_3, szs_3, szl_4, szs_4, szl_5, szs_5, szl_6, szs_6, szl_7, szs_7, szl_8, szs_8, szl_9, szs_9, szl_10, szs_10, szl_11, szs_11, szl_12, szs_12, gSub_int, gMul_small, gDiv_small, gMod_pos, f1, f2, f3, f4, f5, f6, c', hlt, lineX, numS, c]
        simp only [bind_ok, bind_ex, thenS_ok, thenS_ex, of_some, mC_eq, kVar, mVar_eq, kMove, mMove_eq, kD, mD_eq, kF, mF_eq, kBin2, kBin, mBin_eq, kBinB2, kBinB, mBinB_eq, kB, mB_eq, kT, mT_eq, kChain3, kChainB, kChain2, kChain, mChain_eq, kAnd, mAnd_eq, kOr, mOr_eq, kNot, mNot_eq, kAndV, mAndV_eq, kOrV, mOrV_eq, kNotV, mNotV_eq, kIf, mIf_eq, mNil_eq, kCons2, kCons, mCons_eq, kTupD, mTup_eq, kLst, mLst_eq, kUn, mUn_eq, kFun, mFun_eq, kFunL2, kFunL, mFunL_eq, kCat, mCat_eq, catK2, kStr2, kStr1, mStr1_eq, kSplit2, kSplit, mSplit_eq, mNo_eq, kPart, mPart_eq, kSl3, kSl2, kSl, mSl_eq, mJs_nil, kJs, mJs_cons, kLenS, mLenS_eq, kIxS3, kIxS2, kIxS, mIxS_eq, aNil_eq, kA2, kA, aD_eq, kAS2, kAS, aS_eq, kCall3, kCall2, kCall, mCall_eq, sSkip_eq, sSeq_eq, seq_nx, seq_rt, seq_ex, seq_bk, seq_ct, kRet, sRet_eq, kExpr, sExpr_eq, kIfS, sIf_eq, kSet, sSet_eq, kPar, sPar_eq, opt_some, kAsg, sAsg_eq, kApp3, kApp2, kApp, sApp_eq, kPut4, kPut3, kPut2, kPut1, kPut, sPut_eq, fin_nx, fin_rt, fin_ex, loop_nx, loop_ct, loop_bk, loop_rt, loop_ex, forL_nil, kTurn, forL_cons, kFor, sFor_eq, kWh, kSeq, mSeq_eq, mRange1_eq, mRange2_eq, mYes_eq, lcopt_some, lcout_ok, lcL_nil, kLc3, kLc2, kLc1, lcL_cons, kLcEnd, kLc, mLc_eq, cEq_int, cNe_int, gAdd, gNeg, cI, gInt, gIx, gLen, gAbs, gMax2, gMin2, gTuple, gList, gAll, bls?, gStr, gIsi, D.ty, gN, gTupl, gsCons, gsNil, atI_0, atI_1, atI_2, atI_3, atI_4, atI_5, atI_6, ixN_0, ixN_1, back, lookA, Arg.look, slotsA, modesFrom, outsFrom, restore, wipeR, SV.toD, OC.toD, List.map_cons, List.map_nil, List.replicate_succ, List.replicate_zero, List.cons_append, List.nil_append, List.getElem?_cons_zero, List.getElem?_cons_succ, List.getElem?_nil, List.set_cons_zero, List.set_cons_succ, List.length_cons, List.length_nil, List.length_map, List.nodup_cons, List.nodup_nil, List.not_mem_nil, List.mem_cons, Option.bind_some, Option.map_some, ↓reduceIte, decide_true, decide_false, Bool.not_true, Bool.not_false, and_self, and_true, true_and, not_false_eq_true, not_true_eq_false, or_false, false_or, Bool.false_eq_true, Nat.sub_self, beq_self_eq_true, Int.reduceBEq, Int.reduceLT, Int.reduceLE, Nat.reduceSub, szl_0, szs_0, szl_1, szs_1, szl_2, szs_2, szl_3, szs_3, szl_4, szs_4, szl_5, szs_5, szl_6, szs_6, szl_7, szs_7, szl_8, szs_8, szl_9, szs_9, szl_10, szs_10, szl_11, szs_11, szl_12, szs_12, gSub_int, gMul_small, gDiv_small, gMod_pos, f1, f2, f3, f4, f5, f6, c', hlt, lineX, numS, ← c]
      · have c' : (e == f) = false := beq_eq_false_iff_ne.mpr c
        simp only [bind_ok, bind_ex, thenS_ok, thenS_ex, of_some, mC_eq, kVar, mVar_eq, kMove, mMove_eq, kD, mD_eq, kF, mF_eq, kBin2, kBin, mBin_eq, kBinB2, kBinB, mBinB_eq, kB, mB_eq, kT, mT_eq, kChain3, kChainB, kChain2, kChain, mChain_eq, kAnd, mAnd_eq, kOr, mOr_eq, kNot, mNot_eq, kAndV, mAndV_eq, kOrV, mOrV_eq, kNotV, mNotV_eq, kIf, mIf_eq, mNil_eq, kCons2, kCons, mCons_eq, kTupD, mTup_eq, kLst, mLst_eq, kUn, mUn_eq, kFun, mFun_eq, kFunL2, kFunL, mFunL_eq, kCat, mCat_eq, catK2, kStr2, kStr1, mStr1_eq, kSplit2, kSplit, mSplit_eq, mNo_eq, kPart, mPart_eq, kSl3, kSl2, kSl, mSl_eq, mJs_nil, kJs, mJs_cons, kLenS, mLenS_eq, kIxS3, kIxS2, kIxS, mIxS_eq, aNil_eq, kA2, kA, aD_eq, kAS2, kAS, aS_eq, kCall3, kCall2, kCall, mCall_eq, sSkip_eq, sSeq_eq, seq_nx, seq_rt, seq_ex, seq_bk, seq_ct, kRet, sRet_eq, kExpr, sExpr_eq, kIfS, sIf_eq, kSet, sSet_eq, kPar, sPar_eq, opt_some, kAsg, sAsg_eq, kApp3, kApp2, kApp, sApp_eq, kPut4, kPut3, kPut2, kPut1, kPut, sPut_eq, fin_nx, fin_rt, fin_ex, loop_nx, loop_ct, loop_bk, loop_rt, loop_ex, forL_nil, kTurn, forL_cons, kFor, sFor_eq, kWh, kSeq, mSeq_eq, mRange1_eq, mRange2_eq, mYes_eq, lcopt_some, lcout_ok, lcL_nil, kLc3, kLc2, kLc1, lcL_cons, kLcEnd, kLc, mLc_eq, cEq_int, cNe_int, gAdd, gNeg, cI, gInt, gIx, gLen, gAbs, gMax2, gMin2, gTuple, gList, gAll, bls?, gStr, gIsi, D.ty, gN, gTupl, gsCons, gsNil, atI_0, atI_1, atI_2, atI_3, atI_4, atI_5, atI_6, ixN_0, ixN_1, back, lookA, Arg.look, slotsA, modesFrom, outsFrom, restore, wipeR, SV.toD, OC.toD, List.map_cons, List.map_nil, List.replicate_succ, List.replicate_zero, List.cons_append, List.nil_append, List.getElem?_cons_zero, List.getElem?_cons_succ, List.getElem?_nil, List.set_cons_zero, List.set_cons_succ, List.length_cons, List.length_nil, List.length_map, List.nodup_cons, List.nodup_nil, List.not_mem_nil, List.mem_cons, Option.bind_some, Option.map_some, ↓reduceIte, decide_true, decide_false, Bool.not_true, Bool.not_false, and_self, and_true, true_and, not_false_eq_true, not_true_eq_false, or_false, false_or, Bool.false_eq_true, Nat.sub_self, beq_self_eq_true, Int.reduceBEq, Int.reduceLT, Int.reduceLE, Nat.reduceSub, szl_0, szs_0, szl_1, szs_1, szl_2, szs_2, szl_3, szs_3, szl_4, szs_4, szl_5, szs_5, szl_6, szs_6, szl_7, szs_7, szl_8, szs_8, szl_9, szs_9, szl_10, szs_10, szl_11, szs_11, szl_12, szs_12, gSub_int, gMul_small, gDiv_small, gMod_pos, f1, f2, f3, f4, f7, f8, f9, f10, c', hlt, lineX, numS, c]) R [some (SV.d (D.tup (List.map stD R))), some (SV.o (OC.lst [])), none, none, none, none] ⟨[], none, none, none, none, rfl, rfl⟩
  subst hρ
  rw [List.append_nil] at hd
  subst hd
  rw [e]
  simp only [bind_ok, bind_ex, thenS_ok, thenS_ex, of_some, mC_eq, kVar, mVar_eq, kMove, mMove_eq, kD, mD_eq, kF, mF_eq, kBin2, kBin, mBin_eq, kBinB2, kBinB, mBinB_eq, kB, mB_eq, kT, mT_eq, kChain3, kChainB, kChain2, kChain, mChain_eq, kAnd, mAnd_eq, kOr, mOr_eq, kNot, mNot_eq, kAndV, mAndV_eq, kOrV, mOrV_eq, kNotV, mNotV_eq, kIf, mIf_eq, mNil_eq, kCons2, kCons, mCons_eq, kTupD, mTup_eq, kLst, mLst_eq, kUn, mUn_eq, kFun, mFun_eq, kFunL2, kFunL, mFunL_eq, kCat, mCat_eq, catK2, kStr2, kStr1, mStr1_eq, kSplit2, kSplit, mSplit_eq, mNo_eq, kPart, mPart_eq, kSl3, kSl2, kSl, mSl_eq, mJs_nil, kJs, mJs_cons, kLenS, mLenS_eq, kIxS3, kIxS2, kIxS, mIxS_eq, aNil_eq, kA2, kA, aD_eq, kAS2, kAS, aS_eq, kCall3, kCall2, kCall, mCall_eq, sSkip_eq, sSeq_eq, seq_nx, seq_rt, seq_ex, seq_bk, seq_ct, kRet, sRet_eq, kExpr, sExpr_eq, kIfS, sIf_eq, kSet, sSet_eq, kPar, sPar_eq, opt_some, kAsg, sAsg_eq, kApp3, kApp2, kApp, sApp_eq, kPut4, kPut3, kPut2, kPut1, kPut, sPut_eq, fin_nx, fin_rt, fin_ex, loop_nx, loop_ct, loop_bk, loop_rt, loop_ex, forL_nil, kTurn, forL_cons, kFor, sFor_eq, kWh, kSeq, mSeq_eq, mRange1_eq, mRange2_eq, mYes_eq, lcopt_some, lcout_ok, lcL_nil, kLc3, kLc2, kLc1, lcL_cons, kLcEnd, kLc, mLc_eq, cEq_int, cNe_int, gAdd, gNeg, cI, gInt, gIx, gLen, gAbs, gMax2, gMin2, gTuple, gList, gAll, bls?, gStr, gIsi, D.ty, gN, gTupl, gsCons, gsNil, atI_0, atI_1, atI_2, atI_3, atI_4, atI_5, atI_6, ixN_0, ixN_1, back, lookA, Arg.look, slotsA, modesFrom, outsFrom, restore, wipeR, SV.toD, OC.toD, List.map_cons, List.map_nil, List.replicate_succ, List.replicate_zero, List.cons_append, List.nil_append, List.getElem?_cons_zero, List.getElem?_cons_succ, List.getElem?_nil, List.set_cons_zero, List.set_cons_succ, List.length_cons, List.length_nil, List.length_map, List.nodup_cons, List.nodup_nil, List.not_mem_nil, List.mem_cons, Option.bind_some, Option.map_some, ↓reduceIte, decide_true, decide_false, Bool.not_true, Bool.not_false, and_self, and_true, true_and, not_false_eq_true, not_true_eq_false, or_false, false_or, Bool.false_eq_true, Nat.sub_self, beq_self_eq_true, Int.reduceBEq, Int.reduceLT, Int.reduceLE, Nat.reduceSub, szl_0, szs_0, szl_1, szs_1, szl_2, szs_2, szl_3, szs_3, szl_4, szs_4, szl_5, szs_5, szl_6, szs_6, szl_7, szs_7, szl_8, szs_8, szl_9, szs_9, szl_10, szs_10, szl_11, szs_11, szl_12, szs_12, gSub_int, gMul_small, gDiv_small, gMod_pos, joinX hR]
/-! ### drawn rules -/
theorem size_one {H : Hs} (hH : H.Ok) : H.size 1 ≤ 4000 := by
  cases H with
  | two p1 p2 g q =>
    obtain ⟨_, _, hg, hq⟩ := hH
    have hg : g = 1 ∨ g = 2 := by omega
    rcases hg with rfl | rfl <;> simp only [Hs.size] <;> omega
  | three p1 p2 p3 q =>
    obtain ⟨_, _, _, hq⟩ := hH
    simp only [Hs.size]
    omega
theorem many_wh {H : Hs} (hH : H.Ok) (u : U) : ∀ (j : Nat) (m : Int), 1 ≤ m → m ≤ 4 → m ≤ j → ∃ m', 1 ≤ m' ∧ m' ≤ 4 ∧ H.size m' ≤ 4000 ∧
    sWh (mNot (mT (mF (mCall [] m__law_fits (aD (mVar 1) (aD (mVar 3) aNil)))))) (sSet 3 (mD (mBin DL.gSub (mVar 3) (mC (D.int 1))))) j [some (SV.o u.oc), some (SV.d H.d), some (SV.d (D.int 4)), some (SV.d (D.int m)), none, none, none]
      = .nx [some (SV.o u.oc), some (SV.d H.d), some (SV.d (D.int 4)), some (SV.d (D.int m')), none, none, none]
  | 0, m, h1, h2, h3 => by omega
  | j + 1, m, h1, h2, h3 => by
    by_cases h : H.size m ≤ 4000
    · refine ⟨m, h1, h2, h, ?_⟩
      rw [wh_succ]
      simp only [bind_ok, bind_ex, thenS_ok, thenS_ex, of_some, mC_eq, kVar, mVar_eq, kMove, mMove_eq, kD, mD_eq, kF, mF_eq, kBin2, kBin, mBin_eq, kBinB2, kBinB, mBinB_eq, kB, mB_eq, kT, mT_eq, kChain3, kChainB, kChain2, kChain, mChain_eq, kAnd, mAnd_eq, kOr, mOr_eq, kNot, mNot_eq, kAndV, mAndV_eq, kOrV, mOrV_eq, kNotV, mNotV_eq, kIf, mIf_eq, mNil_eq, kCons2, kCons, mCons_eq, kTupD, mTup_eq, kLst, mLst_eq, kUn, mUn_eq, kFun, mFun_eq, kFunL2, kFunL, mFunL_eq, kCat, mCat_eq, catK2, kStr2, kStr1, mStr1_eq, kSplit2, kSplit, mSplit_eq, mNo_eq, kPart, mPart_eq, kSl3, kSl2, kSl, mSl_eq, mJs_nil, kJs, mJs_cons, kLenS, mLenS_eq, kIxS3, kIxS2, kIxS, mIxS_eq, aNil_eq, kA2, kA, aD_eq, kAS2, kAS, aS_eq, kCall3, kCall2, kCall, mCall_eq, sSkip_eq, sSeq_eq, seq_nx, seq_rt, seq_ex, seq_bk, seq_ct, kRet, sRet_eq, kExpr, sExpr_eq, kIfS, sIf_eq, kSet, sSet_eq, kPar, sPar_eq, opt_some, kAsg, sAsg_eq, kApp3, kApp2, kApp, sApp_eq, kPut4, kPut3, kPut2, kPut1, kPut, sPut_eq, fin_nx, fin_rt, fin_ex, loop_nx, loop_ct, loop_bk, loop_rt, loop_ex, forL_nil, kTurn, forL_cons, kFor, sFor_eq, kWh, kSeq, mSeq_eq, mRange1_eq, mRange2_eq, mYes_eq, lcopt_some, lcout_ok, lcL_nil, kLc3, kLc2, kLc1, lcL_cons, kLcEnd, kLc, mLc_eq, cEq_int, cNe_int, gAdd, gNeg, cI, gInt, gIx, gLen, gAbs, gMax2, gMin2, gTuple, gList, gAll, bls?, gStr, gIsi, D.ty, gN, gTupl, gsCons, gsNil, atI_0, atI_1, atI_2, atI_3, atI_4, atI_5, atI_6, ixN_0, ixN_1, back, lookA, Arg.look, slotsA, modesFrom, outsFrom, restore, wipeR, SV.toD, OC.toD, List.map_cons, List.map_nil, List.replicate_succ, List.replicate_zero, List.cons_append, List.nil_append, List.getElem?_cons_zero, List.getElem?_cons_succ, List.getElem?_nil, List.set_cons_zero, List.set_cons_succ, List.length_cons, List.length_nil, List.length_map, List.nodup_cons, List.nodup_nil, List.not_mem_nil, List.mem_cons, Option.bind_some, Option.map_some, ↓reduceIte, decide_true, decide_false, Bool.not_true, Bool.not_false, and_self, and_true, true_and, not_false_eq_true, not_true_eq_false, or_false, false_or, Bool.false_eq_true, Nat.sub_self, beq_self_eq_true, Int.reduceBEq, Int.reduceLT, Int.reduceLE, Nat.reduceSub, szl_0, szs_0, szl_1, szs_1, szl_2, szs_2, szl_3, szs_3, szl_4, szs_4, szl_5, szs_5, szl_6, szs_6, szl_7, szs_7, szl_8, szs_8, szl_9, szs_9, szl_10, szs_10, szl_11, szs_11, szl_12, szs_12, gSub_int, gMul_small, gDiv_small, gMod_pos, fits_eq hH h1 h2, h]
    · have hm : m ≠ 1 := fun z => h (by rw [z]; exact size_one hH)
      obtain ⟨m', a1, a2, a3, a4⟩ := many_wh hH u j (m - 1) (by omega) (by omega) (by omega)
      refine ⟨m', a1, a2, a3, ?_⟩
      rw [wh_succ]
      simp only [bind_ok, bind_ex, thenS_ok, thenS_ex, of_some, mC_eq, kVar, mVar_eq, kMove, mMove_eq, kD, mD_eq, kF, mF_eq, kBin2, kBin, mBin_eq, kBinB2, kBinB, mBinB_eq, kB, mB_eq, kT, mT_eq, kChain3, kChainB, kChain2, kChain, mChain_eq, kAnd, mAnd_eq, kOr, mOr_eq, kNot, mNot_eq, kAndV, mAndV_eq, kOrV, mOrV_eq, kNotV, mNotV_eq, kIf, mIf_eq, mNil_eq, kCons2, kCons, mCons_eq, kTupD, mTup_eq, kLst, mLst_eq, kUn, mUn_eq, kFun, mFun_eq, kFunL2, kFunL, mFunL_eq, kCat, mCat_eq, catK2, kStr2, kStr1, mStr1_eq, kSplit2, kSplit, mSplit_eq, mNo_eq, kPart, mPart_eq, kSl3, kSl2, kSl, mSl_eq, mJs_nil, kJs, mJs_cons, kLenS, mLenS_eq, kIxS3, kIxS2, kIxS, mIxS_eq, aNil_eq, kA2, kA, aD_eq, kAS2, kAS, aS_eq, kCall3, kCall2, kCall, mCall_eq, sSkip_eq, sSeq_eq, seq_nx, seq_rt, seq_ex, seq_bk, seq_ct, kRet, sRet_eq, kExpr, sExpr_eq, kIfS, sIf_eq, kSet, sSet_eq, kPar, sPar_eq, opt_some, kAsg, sAsg_eq, kApp3, kApp2, kApp, sApp_eq, kPut4, kPut3, kPut2, kPut1, kPut, sPut_eq, fin_nx, fin_rt, fin_ex, loop_nx, loop_ct, loop_bk, loop_rt, loop_ex, forL_nil, kTurn, forL_cons, kFor, sFor_eq, kWh, kSeq, mSeq_eq, mRange1_eq, mRange2_eq, mYes_eq, lcopt_some, lcout_ok, lcL_nil, kLc3, kLc2, kLc1, lcL_cons, kLcEnd, kLc, mLc_eq, cEq_int, cNe_int, gAdd, gNeg, cI, gInt, gIx, gLen, gAbs, gMax2, gMin2, gTuple, gList, gAll, bls?, gStr, gIsi, D.ty, gN, gTupl, gsCons, gsNil, atI_0, atI_1, atI_2, atI_3, atI_4, atI_5, atI_6, ixN_0, ixN_1, back, lookA, Arg.look, slotsA, modesFrom, outsFrom, restore, wipeR, SV.toD, OC.toD, List.map_cons, List.map_nil, List.replicate_succ, List.replicate_zero, List.cons_append, List.nil_append, List.getElem?_cons_zero, List.getElem?_cons_succ, List.getElem?_nil, List.set_cons_zero, List.set_cons_succ, List.length_cons, List.length_nil, List.length_map, List.nodup_cons, List.nodup_nil, List.not_mem_nil, List.mem_cons, Option.bind_some, Option.map_some, ↓reduceIte, decide_true, decide_false, Bool.not_true, Bool.not_false, and_self, and_true, true_and, not_false_eq_true, not_true_eq_false, or_false, false_or, Bool.false_eq_true, Nat.sub_self, beq_self_eq_true, Int.reduceBEq, Int.reduceLT, Int.reduceLE, Nat.reduceSub, szl_0, szs_0, szl_1, szs_1, szl_2, szs_2, szl_3, szs_3, szl_4, szs_4, szl_5, szs_5, szl_6, szs_6, szl_7, szs_7, szl_8, szs_8, szl_9, szs_9, szl_10, szs_10, szl_11, szs_11, szl_12, szs_12, gSub_int, gMul_small, gDiv_small, gMod_pos, fits_eq hH h1 h2, h, a4]
theorem places_in (H : Hs) : 1 ≤ H.places ∧ H.places ≤ 3 := by cases H <;> simp [Hs.places]
theorem rule_ex {H : Hs} (hH : H.Ok) (u : U) : ∃ (R : List St3) (u' : U), ROk H R ∧ m__law_rule [.o u.oc, .d H.d, .d (.int 4)] = .ret (.d (ruleD R)) [.o u'.oc, .d H.d, .d (.int 4)] := by
  obtain ⟨r, u1, hr, e1⟩ := draws_1 (u := u) (m := 4)
  obtain ⟨m, m1, m2, m3, mw⟩ := many_wh hH u1 4 (1 + r) (by omega) (by omega) (by omega)
  have kr := fun ρ => kR1 (ρ := ρ) (j := m) (by omega) (by omega)
  obtain ⟨ρ', e, u', acc, x, y, hl, ha, hρ⟩ := forL_inv (gt := gN 5) (b := (sSeq (sSet 6 (mCall [0] m__law_draws (aS 0 (aD (mFun gLen (mCons (mBin gIx (mVar 1) (mC (D.int 0))) mNil)) aNil))))
      (sIf (mBinB cEq (mF (mCall [0] m__law_draws (aS 0 (aD (mC (D.int 3)) aNil)))) (mC (D.int 0)))
        (sApp 4 (mTup (mCons (mVar 6) (mCons (mBin gMod (mBin gAdd (mVar 5) (mC (D.int 1))) (mVar 3)) (mCons (mBin gMod (mBin gAdd (mVar 5) (mC (D.int 1))) (mVar 3)) mNil)))))
        (sApp 4 (mTup (mCons (mVar 6) (mCons (mF (mCall [0] m__law_draws (aS 0 (aD (mVar 3) aNil)))) (mCons (mF (mCall [0] m__law_draws (aS 0 (aD (mVar 3) aNil)))) mNil)))))))) (fun (i : Nat) => D.int (0 + i))
    (fun rest ρ => ∃ (u' : U) (acc : List St3) (x y : Option SV), acc.length + rest.length = m.toNat ∧ (∀ s ∈ acc, (0 ≤ s.1 ∧ s.1 < H.places) ∧ (0 ≤ s.2.1 ∧ s.2.1 < m) ∧ 0 ≤ s.2.2 ∧ s.2.2 < m) ∧ ρ = [some (SV.o u'.oc), some (SV.d H.d), some (SV.d (D.int 4)), some (SV.d (D.int m)), some (.o (.lst (acc.map stD))), x, y]) (fun k rest ρ ⟨u2, acc, x, y, hl, ha, hρ⟩ => by
      subst hρ
      obtain ⟨p, u3, hp, e3⟩ := draws_ex u2 (many := H.places) (by have := places_in H; omega)
      obtain ⟨t, u4, ht, e4⟩ := draws_ex u3 (many := 3) (by decide)
      obtain ⟨a, u5, hpa, e5⟩ := draws_ex u4 (many := m) (by omega)
      obtain ⟨b, u6, hpb, e6⟩ := draws_ex u5 (many := m) (by omega)
      have hm0 : 0 < m := by omega
      have hal : acc.length < sizeLine := by
        simp only [List.length_cons] at hl
        show _ < 2 ^ 24
        omega
      by_cases z : t = 0
      · have z' : (t == 0) = true := beq_iff_eq.mpr z
        refine ⟨[some (SV.o u2.oc), some (SV.d H.d), some (SV.d (D.int 4)), some (SV.d (D.int m)), some (.o (.lst (acc.map stD))), some (.d (.int (0 + (k : Int)))), y], [some (SV.o u4.oc), some (SV.d H.d), some (SV.d (D.int 4)), some (SV.d (D.int m)), some (.o (.lst ((acc ++ [(p, (0 + (k : Int) + 1) % m, (0 + (k : Int) + 1) % m)]).map stD))), some (.d (.int (0 + (k : Int)))), some (.d (.int p))], rfl, ?_, u4, acc ++ [(p, (0 + (k : Int) + 1) % m, (0 + (k : Int) + 1) % m)], _, _, by simp at hl ⊢; omega, fun s hs => ?_, rfl⟩
        · simp only [List.map_append, List.map_cons, List.map_nil, stD]
          cases H with
          | two p1 p2 g q =>
            simp only [Hs.places] at e3
            simp only [bind_ok, bind_ex, thenS_ok, thenS_ex, of_some, mC_eq, kVar, mVar_eq, kMove, mMove_eq, kD, mD_eq, kF, mF_eq, kBin2, kBin, mBin_eq, kBinB2, kBinB, mBinB_eq, kB, mB_eq, kT, mT_eq, kChain3, kChainB, kChain2, kChain, mChain_eq, kAnd, mAnd_eq, kOr, mOr_eq, kNot, mNot_eq, kAndV, mAndV_eq, kOrV, mOrV_eq, kNotV, mNotV_eq, kIf, mIf_eq, mNil_eq, kCons2, kCons, mCons_eq, kTupD, mTup_eq, kLst, mLst_eq, kUn, mUn_eq, kFun, mFun_eq, kFunL2, kFunL, mFunL_eq, kCat, mCat_eq, catK2, kStr2, kStr1, mStr1_eq, kSplit2, kSplit, mSplit_eq, mNo_eq, kPart, mPart_eq, kSl3, kSl2, kSl, mSl_eq, mJs_nil, kJs, mJs_cons, kLenS, mLenS_eq, kIxS3, kIxS2, kIxS, mIxS_eq, aNil_eq, kA2, kA, aD_eq, kAS2, kAS, aS_eq, kCall3, kCall2, kCall, mCall_eq, sSkip_eq, sSeq_eq, seq_nx, seq_rt, seq_ex, seq_bk, seq_ct, kRet, sRet_eq, kExpr, sExpr_eq, kIfS, sIf_eq, kSet, sSet_eq, kPar, sPar_eq, opt_some, kAsg, sAsg_eq, kApp3, kApp2, kApp, sApp_eq, kPut4, kPut3, kPut2, kPut1, kPut, sPut_eq, fin_nx, fin_rt, fin_ex, loop_nx, loop_ct, loop_bk, loop_rt, loop_ex, forL_nil, kTurn, forL_cons, kFor, sFor_eq, kWh, kSeq, mSeq_eq, mRange1_eq, mRange2_eq, mYes_eq, lcopt_some, lcout_ok, lcL_nil, kLc3, kLc2, kLc1, lcL_cons, kLcEnd, kLc, mLc_eq, cEq_int, cNe_int, gAdd, gNeg, cI, gInt, gIx, gLen, gAbs, gMax2, gMin2, gTuple, gList, gAll, bls?, gStr, gIsi, D.ty, gN, gTupl, gsCons, gsNil, atI_0, atI_1, atI_2, atI_3, atI_4, atI_5, atI_6, ixN_0, ixN_1, back, lookA, Arg.look, slotsA, modesFrom, outsFrom, restore, wipeR, SV.toD, OC.toD, List.map_cons, List.map_nil, List.replicate_succ, List.replicate_zero, List.cons_append, List.nil_append, List.getElem?_cons_zero, List.getElem?_cons_succ, List.getElem?_nil, List.set_cons_zero, List.set_cons_succ, List.length_cons, List.length_nil, List.length_map, List.nodup_cons, List.nodup_nil, List.not_mem_nil, List.mem_cons, Option.bind_some, Option.map_some, ↓reduceIte, decide_true, decide_false, Bool.not_true, Bool.not_false, and_self, and_true, true_and, not_false_eq_true, not_true_eq_false, or_false, false_or, Bool.false_eq_true, Nat.sub_self, beq_self_eq_true, Int.reduceBEq, Int.reduceLT, Int.reduceLE, Nat.reduceSub, szl_0, szs_0, szl_1, szs_1, szl_2, szs_2, szl_3, szs_3, szl_4, szs_4, szl_5, szs_5, szl_6, szs_6, szl_7, szs_7, szl_8, szs_8, szl_9, szs_9, szl_10, szs_10, szl_11, szs_11, szl_12, szs_12, gSub_int, gMul_small, gDiv_small, gMod_pos, Hs.d, len2, e3, e4, z', hm0, hal]
          | three p1 p2 p3 q =>
            simp only [Hs.places] at e3
            simp only [bind_ok, bind_ex, thenS_ok, thenS_ex, of_some, mC_eq, kVar, mVar_eq, kMove, mMove_eq, kD, mD_eq, kF, mF_eq, kBin2, kBin, mBin_eq, kBinB2, kBinB, mBinB_eq, kB, mB_eq, kT, mT_eq, kChain3, kChainB, kChain2, kChain, mChain_eq, kAnd, mAnd_eq, kOr, mOr_eq, kNot, mNot_eq, kAndV, mAndV_eq, kOrV, mOrV_eq, kNotV, mNotV_eq, kIf, mIf_eq, mNil_eq, kCons2, kCons, mCons_eq, kTupD, mTup_eq, kLst, mLst_eq, kUn, mUn_eq, kFun, mFun_eq, kFunL2, kFunL, mFunL_eq, kCat, mCat_eq, catK2, kStr2, kStr1, mStr1_eq, kSplit2, kSplit, mSplit_eq, mNo_eq, kPart, mPart_eq, kSl3, kSl2, kSl, mSl_eq, mJs_nil, kJs, mJs_cons, kLenS, mLenS_eq, kIxS3, kIxS2, kIxS, mIxS_eq, aNil_eq, kA2, kA, aD_eq, kAS2, kAS, aS_eq, kCall3, kCall2, kCall, mCall_eq, sSkip_eq, sSeq_eq, seq_nx, seq_rt, seq_ex, seq_bk, seq_ct, kRet, sRet_eq, kExpr, sExpr_eq, kIfS, sIf_eq, kSet, sSet_eq, kPar, sPar_eq, opt_some, kAsg, sAsg_eq, kApp3, kApp2, kApp, sApp_eq, kPut4, kPut3, kPut2, kPut1, kPut, sPut_eq, fin_nx, fin_rt, fin_ex, loop_nx, loop_ct, loop_bk, loop_rt, loop_ex, forL_nil, kTurn, forL_cons, kFor, sFor_eq, kWh, kSeq, mSeq_eq, mRange1_eq, mRange2_eq, mYes_eq, lcopt_some, lcout_ok, lcL_nil, kLc3, kLc2, kLc1, lcL_cons, kLcEnd, kLc, mLc_eq, cEq_int, cNe_int, gAdd, gNeg, cI, gInt, gIx, gLen, gAbs, gMax2, gMin2, gTuple, gList, gAll, bls?, gStr, gIsi, D.ty, gN, gTupl, gsCons, gsNil, atI_0, atI_1, atI_2, atI_3, atI_4, atI_5, atI_6, ixN_0, ixN_1, back, lookA, Arg.look, slotsA, modesFrom, outsFrom, restore, wipeR, SV.toD, OC.toD, List.map_cons, List.map_nil, List.replicate_succ, List.replicate_zero, List.cons_append, List.nil_append, List.getElem?_cons_zero, List.getElem?_cons_succ, List.getElem?_nil, List.set_cons_zero, List.set_cons_succ, List.length_cons, List.length_nil, List.length_map, List.nodup_cons, List.nodup_nil, List.not_mem_nil, List.mem_cons, Option.bind_some, Option.map_some, ↓reduceIte, decide_true, decide_false, Bool.not_true, Bool.not_false, and_self, and_true, true_and, not_false_eq_true, not_true_eq_false, or_false, false_or, Bool.false_eq_true, Nat.sub_self, beq_self_eq_true, Int.reduceBEq, Int.reduceLT, Int.reduceLE, Nat.reduceSub, szl_0, szs_0, szl_1, szs_1, szl_2, szs_2, szl_3, szs_3, szl_4, szs_4, szl_5, szs_5, szl_6, szs_6, szl_7, szs_7, szl_8, szs_8, szl_9, szs_9, szl_10, szs_10, szl_11, szs_11, szl_12, szs_12, gSub_int, gMul_small, gDiv_small, gMod_pos, Hs.d, len3, e3, e4, z', hm0, hal]
        · rcases List.mem_append.mp hs with h | h
          · exact ha s h
          · cases List.mem_singleton.mp h
            exact ⟨hp, ⟨Int.emod_nonneg _ (by omega), Int.emod_lt_of_pos _ hm0⟩, Int.emod_nonneg _ (by omega), Int.emod_lt_of_pos _ hm0⟩
      · have z' : (t == 0) = false := beq_eq_false_iff_ne.mpr z
        refine ⟨[some (SV.o u2.oc), some (SV.d H.d), some (SV.d (D.int 4)), some (SV.d (D.int m)), some (.o (.lst (acc.map stD))), some (.d (.int (0 + (k : Int)))), y], [some (SV.o u6.oc), some (SV.d H.d), some (SV.d (D.int 4)), some (SV.d (D.int m)), some (.o (.lst ((acc ++ [(p, a, b)]).map stD))), some (.d (.int (0 + (k : Int)))), some (.d (.int p))], rfl, ?_, u6, acc ++ [(p, a, b)], _, _, by simp at hl ⊢; omega, fun s hs => ?_, rfl⟩
        · simp only [List.map_append, List.map_cons, List.map_nil, stD]
          cases H with
          | two p1 p2 g q =>
            simp only [Hs.places] at e3
            simp only [bind_ok, bind_ex, thenS_ok, thenS_ex, of_some, mC_eq, kVar, mVar_eq, kMove, mMove_eq, kD, mD_eq, kF, mF_eq, kBin2, kBin, mBin_eq, kBinB2, kBinB, mBinB_eq, kB, mB_eq, kT, mT_eq, kChain3, kChainB, kChain2, kChain, mChain_eq, kAnd, mAnd_eq, kOr, mOr_eq, kNot, mNot_eq, kAndV, mAndV_eq, kOrV, mOrV_eq, kNotV, mNotV_eq, kIf, mIf_eq, mNil_eq, kCons2, kCons, mCons_eq, kTupD, mTup_eq, kLst, mLst_eq, kUn, mUn_eq, kFun, mFun_eq, kFunL2, kFunL, mFunL_eq, kCat, mCat_eq, catK2, kStr2, kStr1, mStr1_eq, kSplit2, kSplit, mSplit_eq, mNo_eq, kPart, mPart_eq, kSl3, kSl2, kSl, mSl_eq, mJs_nil, kJs, mJs_cons, kLenS, mLenS_eq, kIxS3, kIxS2, kIxS, mIxS_eq, aNil_eq, kA2, kA, aD_eq, kAS2, kAS, aS_eq, kCall3, kCall2, kCall, mCall_eq, sSkip_eq, sSeq_eq, seq_nx, seq_rt, seq_ex, seq_bk, seq_ct, kRet, sRet_eq, kExpr, sExpr_eq, kIfS, sIf_eq, kSet, sSet_eq, kPar, sPar_eq, opt_some, kAsg, sAsg_eq, kApp3, kApp2, kApp, sApp_eq, kPut4, kPut3, kPut2, kPut1, kPut, sPut_eq, fin_nx, fin_rt, fin_ex, loop_nx, loop_ct, loop_bk, loop_rt, loop_ex, forL_nil, kTurn, forL_cons, kFor, sFor_eq, kWh, kSeq, mSeq_eq, mRange1_eq, mRange2_eq, mYes_eq, lcopt_some, lcout_ok, lcL_nil, kLc3, kLc2, kLc1, lcL_cons, kLcEnd, kLc, mLc_eq, cEq_int, cNe_int, gAdd, gNeg, cI, gInt, gIx, gLen, gAbs, gMax2, gMin2, gTuple, gList, gAll, bls?, gStr, gIsi, D.ty, gN, gTupl, gsCons, gsNil, atI_0, atI_1, atI_2, atI_3, atI_4, atI_5, atI_6, ixN_0, ixN_1, back, lookA, Arg.look, slotsA, modesFrom, outsFrom, restore, wipeR, SV.toD, OC.toD, List.map_cons, List.map_nil, List.replicate_succ, List.replicate_zero, List.cons_append, List.nil_append, List.getElem?_cons_zero, List.getElem?_cons_succ, List.getElem?_nil, List.set_cons_zero, List.set_cons_succ, List.length_cons, List.length_nil, List.length_map, List.nodup_cons, List.nodup_nil, List.not_mem_nil, List.mem_cons, Option.bind_some, Option.map_some, ↓reduceIte, decide_true, decide_false, Bool.not_true, Bool.not_false, and_self, and_true, true_and, not_false_eq_true, not_true_eq_false, or_false, false_or, Bool.false_eq_true, Nat.sub_self, beq_self_eq_true, Int.reduceBEq, Int.reduceLT, Int.reduceLE, Nat.reduceSub, szl_0, szs_0, szl_1, szs_1, szl_2, szs_2, szl_3, szs_3, szl_4, szs_4, szl_5, szs_5, szl_6, szs_6, szl_7, szs_7, szl_8, szs_8, szl_9, szs_9, szl_10, szs_10, szl_11, szs_11, szl_12, szs_12, gSub_int, gMul_small, gDiv_small, gMod_pos, Hs.d, len2, e3, e4, e5, e6, z', hal]
          | three p1 p2 p3 q =>
            simp only [Hs.places] at e3
            simp only [bind_ok, bind_ex, thenS_ok, thenS_ex, of_some, mC_eq, kVar, mVar_eq, kMove, mMove_eq, kD, mD_eq, kF, mF_eq, kBin2, kBin, mBin_eq, kBinB2, kBinB, mBinB_eq, kB, mB_eq, kT, mT_eq, kChain3, kChainB, kChain2, kChain, mChain_eq, kAnd, mAnd_eq, kOr, mOr_eq, kNot, mNot_eq, kAndV, mAndV_eq, kOrV, mOrV_eq, kNotV, mNotV_eq, kIf, mIf_eq, mNil_eq, kCons2, kCons, mCons_eq, kTupD, mTup_eq, kLst, mLst_eq, kUn, mUn_eq, kFun, mFun_eq, kFunL2, kFunL, mFunL_eq, kCat, mCat_eq, catK2, kStr2, kStr1, mStr1_eq, kSplit2, kSplit, mSplit_eq, mNo_eq, kPart, mPart_eq, kSl3, kSl2, kSl, mSl_eq, mJs_nil, kJs, mJs_cons, kLenS, mLenS_eq, kIxS3, kIxS2, kIxS, mIxS_eq, aNil_eq, kA2, kA, aD_eq, kAS2, kAS, aS_eq, kCall3, kCall2, kCall, mCall_eq, sSkip_eq, sSeq_eq, seq_nx, seq_rt, seq_ex, seq_bk, seq_ct, kRet, sRet_eq, kExpr, sExpr_eq, kIfS, sIf_eq, kSet, sSet_eq, kPar, sPar_eq, opt_some, kAsg, sAsg_eq, kApp3, kApp2, kApp, sApp_eq, kPut4, kPut3, kPut2, kPut1, kPut, sPut_eq, fin_nx, fin_rt, fin_ex, loop_nx, loop_ct, loop_bk, loop_rt, loop_ex, forL_nil, kTurn, forL_cons, kFor, sFor_eq, kWh, kSeq, mSeq_eq, mRange1_eq, mRange2_eq, mYes_eq, lcopt_some, lcout_ok, lcL_nil, kLc3, kLc2, kLc1, lcL_cons, kLcEnd, kLc, mLc_eq, cEq_int, cNe_int, gAdd, gNeg, cI, gInt, gIx, gLen, gAbs, gMax2, gMin2, gTuple, gList, gAll, bls?, gStr, gIsi, D.ty, gN, gTupl, gsCons, gsNil, atI_0, atI_1, atI_2, atI_3, atI_4, atI_5, atI_6, ixN_0, ixN_1, back, lookA, Arg.look, slotsA, modesFrom, outsFrom, restore, wipeR, SV.toD, OC.toD, List.map_cons, List.map_nil, List.replicate_succ, List.replicate_zero, List.cons_append, List.nil_append, List.getElem?_cons_zero, List.getElem?_cons_succ, List.getElem?_nil, List.set_cons_zero, List.set_cons_succ, List.length_cons, List.length_nil, List.length_map, List.nodup_cons, List.nodup_nil, List.not_mem_nil, List.mem_cons, Option.bind_some, Option.map_some, ↓reduceIte, decide_true, decide_false, Bool.not_true, Bool.not_false, and_self, and_true, true_and, not_false_eq_true, not_true_eq_false, or_false, false_or, Bool.false_eq_true, Nat.sub_self, beq_self_eq_true, Int.reduceBEq, Int.reduceLT, Int.reduceLE, Nat.reduceSub, szl_0, szs_0, szl_1, szs_1, szl_2, szs_2, szl_3, szs_3, szl_4, szs_4, szl_5, szs_5, szl_6, szs_6, szl_7, szs_7, szl_8, szs_8, szl_9, szs_9, szl_10, szs_10, szl_11, szs_11, szl_12, szs_12, gSub_int, gMul_small, gDiv_small, gMod_pos, Hs.d, len3, e3, e4, e5, e6, z', hal]
        · rcases List.mem_append.mp hs with h | h
          · exact ha s h
          · cases List.mem_singleton.mp h
            exact ⟨hp, hpa, hpb⟩) (List.range m.toNat) [some (SV.o u1.oc), some (SV.d H.d), some (SV.d (D.int 4)), some (SV.d (D.int m)), some (.o (.lst [])), none, none] ⟨u1, [], none, none, by simp, by simp, rfl⟩
  subst hρ
  have hl' : (acc.length : Int) = m := by simp at hl; omega
  refine ⟨acc, u', ⟨by omega, by omega, by rw [hl']; exact m3, fun s hs => by rw [hl']; exact ha s hs⟩, ?_⟩
  unfold m__law_rule
  refine (mDef_eq (nP := 3) (by rfl)).trans ?_
  unfold pk__law_rule
  simp only [bind_ok, bind_ex, thenS_ok, thenS_ex, of_some, mC_eq, kVar, mVar_eq, kMove, mMove_eq, kD, mD_eq, kF, mF_eq, kBin2, kBin, mBin_eq, kBinB2, kBinB, mBinB_eq, kB, mB_eq, kT, mT_eq, kChain3, kChainB, kChain2, kChain, mChain_eq, kAnd, mAnd_eq, kOr, mOr_eq, kNot, mNot_eq, kAndV, mAndV_eq, kOrV, mOrV_eq, kNotV, mNotV_eq, kIf, mIf_eq, mNil_eq, kCons2, kCons, mCons_eq, kTupD, mTup_eq, kLst, mLst_eq, kUn, mUn_eq, kFun, mFun_eq, kFunL2, kFunL, mFunL_eq, kCat, mCat_eq, catK2, kStr2, kStr1, mStr1_eq, kSplit2, kSplit, mSplit_eq, mNo_eq, kPart, mPart_eq, kSl3, kSl2, kSl, mSl_eq, mJs_nil, kJs, mJs_cons, kLenS, mLenS_eq, kIxS3, kIxS2, kIxS, mIxS_eq, aNil_eq, kA2, kA, aD_eq, kAS2, kAS, aS_eq, kCall3, kCall2, kCall, mCall_eq, sSkip_eq, sSeq_eq, seq_nx, seq_rt, seq_ex, seq_bk, seq_ct, kRet, sRet_eq, kExpr, sExpr_eq, kIfS, sIf_eq, kSet, sSet_eq, kPar, sPar_eq, opt_some, kAsg, sAsg_eq, kApp3, kApp2, kApp, sApp_eq, kPut4, kPut3, kPut2, kPut1, kPut, sPut_eq, fin_nx, fin_rt, fin_ex, loop_nx, loop_ct, loop_bk, loop_rt, loop_ex, forL_nil, kTurn, forL_cons, kFor, sFor_eq, kWh, kSeq, mSeq_eq, mRange1_eq, mRange2_eq, mYes_eq, lcopt_some, lcout_ok, lcL_nil, kLc3, kLc2, kLc1, lcL_cons, kLcEnd, kLc, mLc_eq, cEq_int, cNe_int, gAdd, gNeg, cI, gInt, gIx, gLen, gAbs, gMax2, gMin2, gTuple, gList, gAll, bls?, gStr, gIsi, D.ty, gN, gTupl, gsCons, gsNil, atI_0, atI_1, atI_2, atI_3, atI_4, atI_5, atI_6, ixN_0, ixN_1, back, lookA, Arg.look, slotsA, modesFrom, outsFrom, restore, wipeR, SV.toD, OC.toD, List.map_cons, List.map_nil, List.replicate_succ, List.replicate_zero, List.cons_append, List.nil_append, List.getElem?_cons_zero, List.getElem?_cons_succ, List.getElem?_nil, List.set_cons_zero, List.set_cons_succ, List.length_cons, List.length_nil, List.length_map, List.nodup_cons, List.nodup_nil, List.not_mem_nil, List.mem_cons, Option.bind_some, Option.map_some, ↓reduceIte, decide_true, decide_false, Bool.not_true, Bool.not_false, and_self, and_true, true_and, not_false_eq_true, not_true_eq_false, or_false, false_or, Bool.false_eq_true, Nat.sub_self, beq_self_eq_true, Int.reduceBEq, Int.reduceLT, Int.reduceLE, Nat.reduceSub, szl_0, szs_0, szl_1, szs_1, szl_2, szs_2, szl_3, szs_3, szl_4, szs_4, szl_5, szs_5, szl_6, szs_6, szl_7, szs_7, szl_8, szs_8, szl_9, szs_9, szl_10, szs_10, szl_11, szs_11, szl_12, szs_12, gSub_int, gMul_small, gDiv_small, gMod_pos, e1]
  rw [while_nx 4 mw]
  simp only [bind_ok, bind_ex, thenS_ok, thenS_ex, of_some, mC_eq, kVar, mVar_eq, kMove, mMove_eq, kD, mD_eq, kF, mF_eq, kBin2, kBin, mBin_eq, kBinB2, kBinB, mBinB_eq, kB, mB_eq, kT, mT_eq, kChain3, kChainB, kChain2, kChain, mChain_eq, kAnd, mAnd_eq, kOr, mOr_eq, kNot, mNot_eq, kAndV, mAndV_eq, kOrV, mOrV_eq, kNotV, mNotV_eq, kIf, mIf_eq, mNil_eq, kCons2, kCons, mCons_eq, kTupD, mTup_eq, kLst, mLst_eq, kUn, mUn_eq, kFun, mFun_eq, kFunL2, kFunL, mFunL_eq, kCat, mCat_eq, catK2, kStr2, kStr1, mStr1_eq, kSplit2, kSplit, mSplit_eq, mNo_eq, kPart, mPart_eq, kSl3, kSl2, kSl, mSl_eq, mJs_nil, kJs, mJs_cons, kLenS, mLenS_eq, kIxS3, kIxS2, kIxS, mIxS_eq, aNil_eq, kA2, kA, aD_eq, kAS2, kAS, aS_eq, kCall3, kCall2, kCall, mCall_eq, sSkip_eq, sSeq_eq, seq_nx, seq_rt, seq_ex, seq_bk, seq_ct, kRet, sRet_eq, kExpr, sExpr_eq, kIfS, sIf_eq, kSet, sSet_eq, kPar, sPar_eq, opt_some, kAsg, sAsg_eq, kApp3, kApp2, kApp, sApp_eq, kPut4, kPut3, kPut2, kPut1, kPut, sPut_eq, fin_nx, fin_rt, fin_ex, loop_nx, loop_ct, loop_bk, loop_rt, loop_ex, forL_nil, kTurn, forL_cons, kFor, sFor_eq, kWh, kSeq, mSeq_eq, mRange1_eq, mRange2_eq, mYes_eq, lcopt_some, lcout_ok, lcL_nil, kLc3, kLc2, kLc1, lcL_cons, kLcEnd, kLc, mLc_eq, cEq_int, cNe_int, gAdd, gNeg, cI, gInt, gIx, gLen, gAbs, gMax2, gMin2, gTuple, gList, gAll, bls?, gStr, gIsi, D.ty, gN, gTupl, gsCons, gsNil, atI_0, atI_1, atI_2, atI_3, atI_4, atI_5, atI_6, ixN_0, ixN_1, back, lookA, Arg.look, slotsA, modesFrom, outsFrom, restore, wipeR, SV.toD, OC.toD, List.map_cons, List.map_nil, List.replicate_succ, List.replicate_zero, List.cons_append, List.nil_append, List.getElem?_cons_zero, List.getElem?_cons_succ, List.getElem?_nil, List.set_cons_zero, List.set_cons_succ, List.length_cons, List.length_nil, List.length_map, List.nodup_cons, List.nodup_nil, List.not_mem_nil, List.mem_cons, Option.bind_some, Option.map_some, ↓reduceIte, decide_true, decide_false, Bool.not_true, Bool.not_false, and_self, and_true, true_and, not_false_eq_true, not_true_eq_false, or_false, false_or, Bool.false_eq_true, Nat.sub_self, beq_self_eq_true, Int.reduceBEq, Int.reduceLT, Int.reduceLE, Nat.reduceSub, szl_0, szs_0, szl_1, szs_1, szl_2, szs_2, szl_3, szs_3, szl_4, szs_4, szl_5, szs_5, szl_6, szs_6, szl_7, szs_7, szl_8, szs_8, szl_9, szs_9, szl_10, szs_10, szl_11, szs_11, szl_12, szs_12, gSub_int, gMul_small, gDiv_small, gMod_pos, kr, e, ruleD]
end Lw
namespace Lw
open PySem PySem.Spec PyProof.Rows L2 L2H DL DH HotX LamX
theorem cut_take {xs : List D} {k : Nat} (h : k ≤ xs.length) : DL.cutD xs none (some (k : Int)) = xs.take k := by
  unfold DL.cutD
  rw [HT.sIx_nat, HT.sIx_none, Nat.min_eq_left h, List.drop_zero, Nat.sub_zero]
theorem cut_drop {xs : List D} {k : Nat} (h : k + 1 ≤ xs.length) : DL.cutD xs (some ((k : Int) + 1)) none = xs.drop (k + 1) := by
  unfold DL.cutD
  rw [show ((k : Int) + 1) = ((k + 1 : Nat) : Int) from rfl, HT.sIx_nat, HT.sIx_none, Nat.min_eq_left h, List.take_of_length_le (by rw [List.length_drop]; exact Nat.le_refl _)]
theorem ruleD_set {R : List St3} {k : Nat} {s : St3} (h : k < R.length) : ruleD (R.set k s) = .tup ((R.map stD).take k ++ [stD s] ++ (R.map stD).drop (k + 1)) := by
  unfold ruleD
  rw [List.map_set, List.set_eq_take_append_cons_drop, if_pos (by rw [List.length_map]; exact h), List.append_assoc]
  rfl
theorem rok_set {H : Hs} {R : List St3} {k : Nat} {s : St3} (hR : ROk H R) (h : (0 ≤ s.1 ∧ s.1 < H.places) ∧ (0 ≤ s.2.1 ∧ s.2.1 < R.length) ∧ 0 ≤ s.2.2 ∧ s.2.2 < R.length) : ROk H (R.set k s) := by
  refine ⟨by rw [List.length_set]; exact hR.one, by rw [List.length_set]; exact hR.four, by rw [List.length_set]; exact hR.size, fun t ht => ?_⟩
  rw [List.length_set]
  rcases List.mem_or_eq_of_mem_set ht with h' | rfl
  · exact hR.st t h'
  · exact h
theorem close_ex {H : Hs} {R : List St3} (hH : H.Ok) (hR : ROk H R) (u : U) : ∃ (R' : List St3) (u' : U), ROk H R' ∧ m__law_close [.o u.oc, .d H.d, .d (ruleD R)] = .ret (.d (ruleD R')) [.o u'.oc, .d H.d, .d (ruleD R)] := by
  have r1 := hR.one
  have r4 := hR.four
  obtain ⟨k, u1, hk, e1⟩ := draws_ex u (many := R.length) (by omega)
  obtain ⟨t, u2, ht, e2⟩ := draws_ex u1 (many := 4) (by decide)
  obtain ⟨kn, rfl⟩ : ∃ kn : Nat, k = kn := ⟨k.toNat, by omega⟩
  have hkn : kn < R.length := by omega
  obtain ⟨p', u3, hp', e3⟩ := draws_ex u2 (many := H.places) (by have := places_in H; omega)
  obtain ⟨f', u3', hf', e3'⟩ := draws_ex u2 (many := R.length) (by omega)
  obtain ⟨⟨p, e, f⟩, hs⟩ : ∃ s, R[kn]? = some s := ⟨R[kn], List.getElem?_eq_getElem hkn⟩
  have hst := hR.st _ (List.mem_of_getElem? hs)
  have hix : (R.map stD)[kn]? = some (.tup [.int p, .int e, .int f]) := by rw [List.getElem?_map, hs]; rfl
  have hat : atI (R.map stD) (kn : Int) = some (.tup [.int p, .int e, .int f]) := (atI_nat kn).trans hix
  have ct := cut_take (xs := R.map stD) (k := kn) (by rw [List.length_map]; omega)
  have cd := cut_drop (xs := R.map stD) (k := kn) (by rw [List.length_map]; omega)
  have hA : ((R.map stD).take kn).length + (0 + 1) ≤ sizeLine := by rw [List.length_take, List.length_map]; show _ ≤ 2 ^ 24; omega
  have hB : ∀ x, ((R.map stD).take kn ++ [x]).length + ((R.map stD).drop (kn + 1)).length ≤ sizeLine := fun x => by rw [List.length_append, List.length_take, List.length_drop, List.length_map]; simp only [List.length_singleton]; show _ ≤ 2 ^ 24; omega
  have go : ∀ (p2 e2 f2 : Int) (u2 : U), ((0 ≤ p2 ∧ p2 < H.places) ∧ (0 ≤ e2 ∧ e2 < R.length) ∧ 0 ≤ f2 ∧ f2 < R.length) → m__law_close [.o u.oc, .d H.d, .d (ruleD R)] = .ret (.d (.tup ((R.map stD).take kn ++ [.tup [.int p2, .int e2, .int f2]] ++ (R.map stD).drop (kn + 1)))) [.o u2.oc, .d H.d, .d (ruleD R)] → ∃ (R' : List St3) (u' : U), ROk H R' ∧ m__law_close [.o u.oc, .d H.d, .d (ruleD R)] = .ret (.d (ruleD R')) [.o u'.oc, .d H.d, .d (ruleD R)] := fun p2 e2 f2 u2 h h' =>
    ⟨R.set kn (p2, e2, f2), u2, rok_set hR h, by rw [ruleD_set hkn]; exact h'⟩
  have open_ : ∀ {r cs}, (pk__law_close.1 ([.o u.oc, .d H.d, .d (ruleD R)].map some ++ List.replicate (8 - 3) none)).fin [.o u.oc, .d H.d, .d (ruleD R)] = .ret r cs → m__law_close [.o u.oc, .d H.d, .d (ruleD R)] = .ret r cs := fun h => (mDef_eq (nP := 3) (by rfl)).trans h
  have ht4 : t = 0 ∨ t = 1 ∨ t = 2 ∨ t = 3 := by omega
  have b00 : ((0 : Int) == 0) = true := by decide
  have b10 : ((1 : Int) == 0) = false := by decide
  have b11 : ((1 : Int) == 1) = true := by decide
  have b20 : ((2 : Int) == 0) = false := by decide
  have b21 : ((2 : Int) == 1) = false := by decide
  have b22 : ((2 : Int) == 2) = true := by decide
  have b30 : ((3 : Int) == 0) = false := by decide
  have b31 : ((3 : Int) == 1) = false := by decide
  have b32 : ((3 : Int) == 2) = false := by decide
  rcases ht4 with rfl | rfl | rfl | rfl
  · refine ⟨R, u2, hR, open_ ?_⟩
    unfold pk__law_close
    simp only [bind_ok, bind_ex, thenS_ok, thenS_ex, of_some, mC_eq, kVar, mVar_eq, kMove, mMove_eq, kD, mD_eq, kF, mF_eq, kBin2, kBin, mBin_eq, kBinB2, kBinB, mBinB_eq, kB, mB_eq, kT, mT_eq, kChain3, kChainB, kChain2, kChain, mChain_eq, kAnd, mAnd_eq, kOr, mOr_eq, kNot, mNot_eq, kAndV, mAndV_eq, kOrV, mOrV_eq, kNotV, mNotV_eq, kIf, mIf_eq, mNil_eq, kCons2, kCons, mCons_eq, kTupD, mTup_eq, kLst, mLst_eq, kUn, mUn_eq, kFun, mFun_eq, kFunL2, kFunL, mFunL_eq, kCat, mCat_eq, catK2, kStr2, kStr1, mStr1_eq, kSplit2, kSplit, mSplit_eq, mNo_eq, kPart, mPart_eq, kSl3, kSl2, kSl, mSl_eq, mJs_nil, kJs, mJs_cons, kLenS, mLenS_eq, kIxS3, kIxS2, kIxS, mIxS_eq, aNil_eq, kA2, kA, aD_eq, kAS2, kAS, aS_eq, kCall3, kCall2, kCall, mCall_eq, sSkip_eq, sSeq_eq, seq_nx, seq_rt, seq_ex, seq_bk, seq_ct, kRet, sRet_eq, kExpr, sExpr_eq, kIfS, sIf_eq, kSet, sSet_eq, kPar, sPar_eq, opt_some, kAsg, sAsg_eq, kApp3, kApp2, kApp, sApp_eq, kPut4, kPut3, kPut2, kPut1, kPut, sPut_eq, fin_nx, fin_rt, fin_ex, loop_nx, loop_ct, loop_bk, loop_rt, loop_ex, forL_nil, kTurn, forL_cons, kFor, sFor_eq, kWh, kSeq, mSeq_eq, mRange1_eq, mRange2_eq, mYes_eq, lcopt_some, lcout_ok, lcL_nil, kLc3, kLc2, kLc1, lcL_cons, kLcEnd, kLc, mLc_eq, cEq_int, cNe_int, gAdd, gNeg, cI, gInt, gIx, gLen, gAbs, gMax2, gMin2, gTuple, gList, gAll, bls?, gStr, gIsi, D.ty, gN, gTupl, gsCons, gsNil, atI_0, atI_1, atI_2, atI_3, atI_4, atI_5, atI_6, ixN_0, ixN_1, back, lookA, Arg.look, slotsA, modesFrom, outsFrom, restore, wipeR, SV.toD, OC.toD, List.map_cons, List.map_nil, List.replicate_succ, List.replicate_zero, List.cons_append, List.nil_append, List.getElem?_cons_zero, List.getElem?_cons_succ, List.getElem?_nil, List.set_cons_zero, List.set_cons_succ, List.length_cons, List.length_nil, List.length_map, List.nodup_cons, List.nodup_nil, List.not_mem_nil, List.mem_cons, Option.bind_some, Option.map_some, ↓reduceIte, decide_true, decide_false, Bool.not_true, Bool.not_false, and_self, and_true, true_and, not_false_eq_true, not_true_eq_false, or_false, false_or, Bool.false_eq_true, Nat.sub_self, beq_self_eq_true, Int.reduceBEq, Int.reduceLT, Int.reduceLE, Nat.reduceSub, szl_0, szs_0, szl_1, szs_1, szl_2, szs_2, szl_3, szs_3, szl_4, szs_4, szl_5, szs_5, szl_6, szs_6, szl_7, szs_7, szl_8, szs_8, szl_9, szs_9, szl_10, szs_10, szl_11, szs_11, szl_12, szs_12, gSub_int, gMul_small, gDiv_small, gMod_pos, ruleD, e1, e2, hat, b00]
  · refine go p' e f u3 ⟨hp', hst.2⟩ (open_ ?_)
    unfold pk__law_close
    cases H with
    | two p1 p2 g q =>
      simp only [Hs.places] at e3
      simp only [bind_ok, bind_ex, thenS_ok, thenS_ex, of_some, mC_eq, kVar, mVar_eq, kMove, mMove_eq, kD, mD_eq, kF, mF_eq, kBin2, kBin, mBin_eq, kBinB2, kBinB, mBinB_eq, kB, mB_eq, kT, mT_eq, kChain3, kChainB, kChain2, kChain, mChain_eq, kAnd, mAnd_eq, kOr, mOr_eq, kNot, mNot_eq, kAndV, mAndV_eq, kOrV, mOrV_eq, kNotV, mNotV_eq, kIf, mIf_eq, mNil_eq, kCons2, kCons, mCons_eq, kTupD, mTup_eq, kLst, mLst_eq, kUn, mUn_eq, kFun, mFun_eq, kFunL2, kFunL, mFunL_eq, kCat, mCat_eq, catK2, kStr2, kStr1, mStr1_eq, kSplit2, kSplit, mSplit_eq, mNo_eq, kPart, mPart_eq, kSl3, kSl2, kSl, mSl_eq, mJs_nil, kJs, mJs_cons, kLenS, mLenS_eq, kIxS3, kIxS2, kIxS, mIxS_eq, aNil_eq, kA2, kA, aD_eq, kAS2, kAS, aS_eq, kCall3, kCall2, kCall, mCall_eq, sSkip_eq, sSeq_eq, seq_nx, seq_rt, seq_ex, seq_bk, seq_ct, kRet, sRet_eq, kExpr, sExpr_eq, kIfS, sIf_eq, kSet, sSet_eq, kPar, sPar_eq, opt_some, kAsg, sAsg_eq, kApp3, kApp2, kApp, sApp_eq, kPut4, kPut3, kPut2, kPut1, kPut, sPut_eq, fin_nx, fin_rt, fin_ex, loop_nx, loop_ct, loop_bk, loop_rt, loop_ex, forL_nil, kTurn, forL_cons, kFor, sFor_eq, kWh, kSeq, mSeq_eq, mRange1_eq, mRange2_eq, mYes_eq, lcopt_some, lcout_ok, lcL_nil, kLc3, kLc2, kLc1, lcL_cons, kLcEnd, kLc, mLc_eq, cEq_int, cNe_int, gAdd, gNeg, cI, gInt, gIx, gLen, gAbs, gMax2, gMin2, gTuple, gList, gAll, bls?, gStr, gIsi, D.ty, gN, gTupl, gsCons, gsNil, atI_0, atI_1, atI_2, atI_3, atI_4, atI_5, atI_6, ixN_0, ixN_1, back, lookA, Arg.look, slotsA, modesFrom, outsFrom, restore, wipeR, SV.toD, OC.toD, List.map_cons, List.map_nil, List.replicate_succ, List.replicate_zero, List.cons_append, List.nil_append, List.getElem?_cons_zero, List.getElem?_cons_succ, List.getElem?_nil, List.set_cons_zero, List.set_cons_succ, List.length_cons, List.length_nil, List.length_map, List.nodup_cons, List.nodup_nil, List.not_mem_nil, List.mem_cons, Option.bind_some, Option.map_some, ↓reduceIte, decide_true, decide_false, Bool.not_true, Bool.not_false, and_self, and_true, true_and, not_false_eq_true, not_true_eq_false, or_false, false_or, Bool.false_eq_true, Nat.sub_self, beq_self_eq_true, Int.reduceBEq, Int.reduceLT, Int.reduceLE, Nat.reduceSub, szl_0, szs_0, szl_1, szs_1, szl_2, szs_2, szl_3, szs_3, szl_4, szs_4, szl_5, szs_5, szl_6, szs_6, szl_7, szs_7, szl_8, szs_8, szl_9, szs_9, szl_10, szs_10, szl_11, szs_11, szl_12, szs_12, gSub_int, gMul_small, gDiv_small, gMod_pos, ruleD, e1, e2, hat, b10, b11, gSl, ct, cd, hA, hB, e3, Hs.d, len2]
    | three p1 p2 p3 q =>
      simp only [Hs.places] at e3
      simp only [bind_ok, bind_ex, thenS_ok, thenS_ex, of_some, mC_eq, kVar, mVar_eq, kMove, mMove_eq, kD, mD_eq, kF, mF_eq, kBin2, kBin, mBin_eq, kBinB2, kBinB, mBinB_eq, kB, mB_eq, kT, mT_eq, kChain3, kChainB, kChain2, kChain, mChain_eq, kAnd, mAnd_eq, kOr, mOr_eq, kNot, mNot_eq, kAndV, mAndV_eq, kOrV, mOrV_eq, kNotV, mNotV_eq, kIf, mIf_eq, mNil_eq, kCons2, kCons, mCons_eq, kTupD, mTup_eq, kLst, mLst_eq, kUn, mUn_eq, kFun, mFun_eq, kFunL2, kFunL, mFunL_eq, kCat, mCat_eq, catK2, kStr2, kStr1, mStr1_eq, kSplit2, kSplit, mSplit_eq, mNo_eq, kPart, mPart_eq, kSl3, kSl2, kSl, mSl_eq, mJs_nil, kJs, mJs_cons, kLenS, mLenS_eq, kIxS3, kIxS2, kIxS, mIxS_eq, aNil_eq, kA2, kA, aD_eq, kAS2, kAS, aS_eq, kCall3, kCall2, kCall, mCall_eq, sSkip_eq, sSeq_eq, seq_nx, seq_rt, seq_ex, seq_bk, seq_ct, kRet, sRet_eq, kExpr, sExpr_eq, kIfS, sIf_eq, kSet, sSet_eq, kPar, sPar_eq, opt_some, kAsg, sAsg_eq, kApp3, kApp2, kApp, sApp_eq, kPut4, kPut3, kPut2, kPut1, kPut, sPut_eq, fin_nx, fin_rt, fin_ex, loop_nx, loop_ct, loop_bk, loop_rt, loop_ex, forL_nil, kTurn, forL_cons, kFor, sFor_eq, kWh, kSeq, mSeq_eq, mRange1_eq, mRange2_eq, mYes_eq, lcopt_some, lcout_ok, lcL_nil, kLc3, kLc2, kLc1, lcL_cons, kLcEnd, kLc, mLc_eq, cEq_int, cNe_int, gAdd, gNeg, cI, gInt, gIx, gLen, gAbs, gMax2, gMin2, gTuple, gList, gAll, bls?, gStr, gIsi, D.ty, gN, gTupl, gsCons, gsNil, atI_0, atI_1, atI_2, atI_3, atI_4, atI_5, atI_6, ixN_0, ixN_1, back, lookA, Arg.look, slotsA, modesFrom, outsFrom, restore, wipeR, SV.toD, OC.toD, List.map_cons, List.map_nil, List.replicate_succ, List.replicate_zero, List.cons_append, List.nil_append, List.getElem?_cons_zero, List.getElem?_cons_succ, List.getElem?_nil, List.set_cons_zero, List.set_cons_succ, List.length_cons, List.length_nil, List.length_map, List.nodup_cons, List.nodup_nil, List.not_mem_nil, List.mem_cons, Option.bind_some, Option.map_some, ↓reduceIte, decide_true, decide_false, Bool.not_true, Bool.not_false, and_self, and_true, true_and, not_false_eq_true, not_true_eq_false, or_false, false_or, Bool.false_eq_true, Nat.sub_self, beq_self_eq_true, Int.reduceBEq, Int.reduceLT, Int.reduceLE, Nat.reduceSub, szl_0, szs_0, szl_1, szs_1, szl_2, szs_2, szl_3, szs_3, szl_4, szs_4, szl_5, szs_5, szl_6, szs_6, szl_7, szs_7, szl_8, szs_8, szl_9, szs_9, szl_10, szs_10, szl_11, szs_11, szl_12, szs_12, gSub_int, gMul_small, gDiv_small, gMod_pos, ruleD, e1, e2, hat, b10, b11, gSl, ct, cd, hA, hB, e3, Hs.d, len3]
  · refine go p f e u2 ⟨hst.1, hst.2.2, hst.2.1⟩ (open_ ?_)
    unfold pk__law_close
    simp only [bind_ok, bind_ex, thenS_ok, thenS_ex, of_some, mC_eq, kVar, mVar_eq, kMove, mMove_eq, kD, mD_eq, kF, mF_eq, kBin2, kBin, mBin_eq, kBinB2, kBinB, mBinB_eq, kB, mB_eq, kT, mT_eq, kChain3, kChainB, kChain2, kChain, mChain_eq, kAnd, mAnd_eq, kOr, mOr_eq, kNot, mNot_eq, kAndV, mAndV_eq, kOrV, mOrV_eq, kNotV, mNotV_eq, kIf, mIf_eq, mNil_eq, kCons2, kCons, mCons_eq, kTupD, mTup_eq, kLst, mLst_eq, kUn, mUn_eq, kFun, mFun_eq, kFunL2, kFunL, mFunL_eq, kCat, mCat_eq, catK2, kStr2, kStr1, mStr1_eq, kSplit2, kSplit, mSplit_eq, mNo_eq, kPart, mPart_eq, kSl3, kSl2, kSl, mSl_eq, mJs_nil, kJs, mJs_cons, kLenS, mLenS_eq, kIxS3, kIxS2, kIxS, mIxS_eq, aNil_eq, kA2, kA, aD_eq, kAS2, kAS, aS_eq, kCall3, kCall2, kCall, mCall_eq, sSkip_eq, sSeq_eq, seq_nx, seq_rt, seq_ex, seq_bk, seq_ct, kRet, sRet_eq, kExpr, sExpr_eq, kIfS, sIf_eq, kSet, sSet_eq, kPar, sPar_eq, opt_some, kAsg, sAsg_eq, kApp3, kApp2, kApp, sApp_eq, kPut4, kPut3, kPut2, kPut1, kPut, sPut_eq, fin_nx, fin_rt, fin_ex, loop_nx, loop_ct, loop_bk, loop_rt, loop_ex, forL_nil, kTurn, forL_cons, kFor, sFor_eq, kWh, kSeq, mSeq_eq, mRange1_eq, mRange2_eq, mYes_eq, lcopt_some, lcout_ok, lcL_nil, kLc3, kLc2, kLc1, lcL_cons, kLcEnd, kLc, mLc_eq, cEq_int, cNe_int, gAdd, gNeg, cI, gInt, gIx, gLen, gAbs, gMax2, gMin2, gTuple, gList, gAll, bls?, gStr, gIsi, D.ty, gN, gTupl, gsCons, gsNil, atI_0, atI_1, atI_2, atI_3, atI_4, atI_5, atI_6, ixN_0, ixN_1, back, lookA, Arg.look, slotsA, modesFrom, outsFrom, restore, wipeR, SV.toD, OC.toD, List.map_cons, List.map_nil, List.replicate_succ, List.replicate_zero, List.cons_append, List.nil_append, List.getElem?_cons_zero, List.getElem?_cons_succ, List.getElem?_nil, List.set_cons_zero, List.set_cons_succ, List.length_cons, List.length_nil, List.length_map, List.nodup_cons, List.nodup_nil, List.not_mem_nil, List.mem_cons, Option.bind_some, Option.map_some, ↓reduceIte, decide_true, decide_false, Bool.not_true, Bool.not_false, and_self, and_true, true_and, not_false_eq_true, not_true_eq_false, or_false, false_or, Bool.false_eq_true, Nat.sub_self, beq_self_eq_true, Int.reduceBEq, Int.reduceLT, Int.reduceLE, Nat.reduceSub, szl_0, szs_0, szl_1, szs_1, szl_2, szs_2, szl_3, szs_3, szl_4, szs_4, szl_5, szs_5, szl_6, szs_6, szl_7, szs_7, szl_8, szs_8, szl_9, szs_9, szl_10, szs_10, szl_11, szs_11, szl_12, szs_12, gSub_int, gMul_small, gDiv_small, gMod_pos, ruleD, e1, e2, hat, b20, b21, b22, gSl, ct, cd, hA, hB]
  · refine go p e f' u3' ⟨hst.1, hst.2.1, hf'⟩ (open_ ?_)
    unfold pk__law_close
    simp only [bind_ok, bind_ex, thenS_ok, thenS_ex, of_some, mC_eq, kVar, mVar_eq, kMove, mMove_eq, kD, mD_eq, kF, mF_eq, kBin2, kBin, mBin_eq, kBinB2, kBinB, mBinB_eq, kB, mB_eq, kT, mT_eq, kChain3, kChainB, kChain2, kChain, mChain_eq, kAnd, mAnd_eq, kOr, mOr_eq, kNot, mNot_eq, kAndV, mAndV_eq, kOrV, mOrV_eq, kNotV, mNotV_eq, kIf, mIf_eq, mNil_eq, kCons2, kCons, mCons_eq, kTupD, mTup_eq, kLst, mLst_eq, kUn, mUn_eq, kFun, mFun_eq, kFunL2, kFunL, mFunL_eq, kCat, mCat_eq, catK2, kStr2, kStr1, mStr1_eq, kSplit2, kSplit, mSplit_eq, mNo_eq, kPart, mPart_eq, kSl3, kSl2, kSl, mSl_eq, mJs_nil, kJs, mJs_cons, kLenS, mLenS_eq, kIxS3, kIxS2, kIxS, mIxS_eq, aNil_eq, kA2, kA, aD_eq, kAS2, kAS, aS_eq, kCall3, kCall2, kCall, mCall_eq, sSkip_eq, sSeq_eq, seq_nx, seq_rt, seq_ex, seq_bk, seq_ct, kRet, sRet_eq, kExpr, sExpr_eq, kIfS, sIf_eq, kSet, sSet_eq, kPar, sPar_eq, opt_some, kAsg, sAsg_eq, kApp3, kApp2, kApp, sApp_eq, kPut4, kPut3, kPut2, kPut1, kPut, sPut_eq, fin_nx, fin_rt, fin_ex, loop_nx, loop_ct, loop_bk, loop_rt, loop_ex, forL_nil, kTurn, forL_cons, kFor, sFor_eq, kWh, kSeq, mSeq_eq, mRange1_eq, mRange2_eq, mYes_eq, lcopt_some, lcout_ok, lcL_nil, kLc3, kLc2, kLc1, lcL_cons, kLcEnd, kLc, mLc_eq, cEq_int, cNe_int, gAdd, gNeg, cI, gInt, gIx, gLen, gAbs, gMax2, gMin2, gTuple, gList, gAll, bls?, gStr, gIsi, D.ty, gN, gTupl, gsCons, gsNil, atI_0, atI_1, atI_2, atI_3, atI_4, atI_5, atI_6, ixN_0, ixN_1, back, lookA, Arg.look, slotsA, modesFrom, outsFrom, restore, wipeR, SV.toD, OC.toD, List.map_cons, List.map_nil, List.replicate_succ, List.replicate_zero, List.cons_append, List.nil_append, List.getElem?_cons_zero, List.getElem?_cons_succ, List.getElem?_nil, List.set_cons_zero, List.set_cons_succ, List.length_cons, List.length_nil, List.length_map, List.nodup_cons, List.nodup_nil, List.not_mem_nil, List.mem_cons, Option.bind_some, Option.map_some, ↓reduceIte, decide_true, decide_false, Bool.not_true, Bool.not_false, and_self, and_true, true_and, not_false_eq_true, not_true_eq_false, or_false, false_or, Bool.false_eq_true, Nat.sub_self, beq_self_eq_true, Int.reduceBEq, Int.reduceLT, Int.reduceLE, Nat.reduceSub, szl_0, szs_0, szl_1, szs_1, szl_2, szs_2, szl_3, szs_3, szl_4, szs_4, szl_5, szs_5, szl_6, szs_6, szl_7, szs_7, szl_8, szs_8, szl_9, szs_9, szl_10, szs_10, szl_11, szs_11, szl_12, szs_12, gSub_int, gMul_small, gDiv_small, gMod_pos, ruleD, e1, e2, hat, b30, b31, b32, gSl, ct, cd, hA, hB, e3']
/-! ### the urn of a cell -/
theorem mod_bound {i : Int} : 0 ≤ i % 2147483477 + 1 ∧ i % 2147483477 + 1 < 2 ^ 40 := by
  have h1 := Int.emod_nonneg i (b := 2147483477) (by decide)
  have h2 := Int.emod_lt_of_pos i (b := 2147483477) (by decide)
  omega
theorem urn_end {c k : Int} (hc : 0 ≤ c) : ∃ u : U, (OC.lst [.int (if c ≥ 10 ^ 18 then c else 0), .int ((c % 2147483477 * 9 + 23 * k + 1) % 2147483477 + 1)]) = u.oc :=
  ⟨⟨if c ≥ 10 ^ 18 then c else 0, (c % 2147483477 * 9 + 23 * k + 1) % 2147483477 + 1, by split <;> omega, mod_bound.1, mod_bound.2⟩, rfl⟩
def BIG : Int := 10 ^ 60 * 10 ^ 60 * 10 ^ 60 * 10 ^ 55
theorem pow60 : gPow (.int 10) (.int 60) = some (.int (10 ^ 60)) := rfl
theorem pow55 : gPow (.int 10) (.int 55) = some (.int (10 ^ 55)) := rfl
theorem pow18 : gPow (.int 10) (.int 18) = some (.int (10 ^ 18)) := rfl
theorem gMul_mid {i j : Int} (hi : i.natAbs < 2 ^ 1000) (hj : j.natAbs < 2 ^ 1000) : gMul (.int i) (.int j) = some (.int (i * j)) := by
  have key : ∀ {n : Nat}, n < 2 ^ 1000 → n.log2 < 1001 := fun {n} h => by
    by_cases z : n = 0
    · rw [z]; decide
    · have := (Nat.log2_lt z).mpr h
      omega
  have h1 := key hi
  have h2 := key hj
  simp only [gMul, gI]
  rw [if_pos (by simp; omega)]
theorem mul1 : gMul (.int (10 ^ 60)) (.int (10 ^ 60)) = some (.int (10 ^ 60 * 10 ^ 60)) := gMul_mid (by decide +kernel) (by decide +kernel)
theorem mul2 : gMul (.int (10 ^ 60 * 10 ^ 60)) (.int (10 ^ 60)) = some (.int (10 ^ 60 * 10 ^ 60 * 10 ^ 60)) := gMul_mid (by decide +kernel) (by decide +kernel)
theorem mul3 : gMul (.int (10 ^ 60 * 10 ^ 60 * 10 ^ 60)) (.int (10 ^ 55)) = some (.int BIG) := gMul_mid (by decide +kernel) (by decide +kernel)
theorem mod_big {i : Int} : gMod (.int i) (.int BIG) = some (.int (i % BIG)) := gMod_pos (by decide +kernel)
theorem mod_b0 {i : Int} : 0 ≤ i % BIG := Int.emod_nonneg _ (by decide +kernel)
theorem mul_9 {c : Int} : gMul (.int (c % 2147483477)) (.int 9) = some (.int (c % 2147483477 * 9)) := by
  have h1 := Int.emod_nonneg c (b := 2147483477) (by decide)
  have h2 := Int.emod_lt_of_pos c (b := 2147483477) (by decide)
  exact gMul_small (by omega) (by decide)
theorem mod_21 {c : Int} : gMod (.int c) (.int 2147483477) = some (.int (c % 2147483477)) := gMod_pos (by decide)
theorem mod_10 {c : Int} : gMod (.int c) (.int 1000033) = some (.int (c % 1000033)) := gMod_pos (by decide)
theorem urn_ex {ns : List Int} {k : Nat} (hk : k < ns.length ∨ ns = []) (hk2 : k ≤ 20) : ∃ u : U, m__law_urn [.d (.scr (ns.map D.int)), .d (.int (k : Int))] = .ret (.o u.oc) [.d (.scr (ns.map D.int)), .d (.int (k : Int))] := by
  have open_ : ∀ {r cs}, (pk__law_urn.1 ([.d (.scr (ns.map D.int)), .d (.int (k : Int))].map some ++ List.replicate (3 - 2) none)).fin [.d (.scr (ns.map D.int)), .d (.int (k : Int))] = .ret r cs → m__law_urn [.d (.scr (ns.map D.int)), .d (.int (k : Int))] = .ret r cs := fun h => (mDef_eq (nP := 2) (by rfl)).trans h
  have k31 : gMul (.int 31337) (.int (k : Int)) = some (.int (31337 * k)) := gMul_small (by decide) (by omega)
  have k23 : gMul (.int 23) (.int (k : Int)) = some (.int (23 * k)) := gMul_small (by decide) (by omega)
  have mk : ∀ {c : Int}, 0 ≤ c → ∀ (c2 : Int), c2 = c ∨ c2 = 0 → ∃ u : U, OC.lst [.int c2, .int ((c % 2147483477 * 9 + 23 * (k : Int) + 1) % 2147483477 + 1)] = u.oc := fun {c} hc c2 h2 =>
    ⟨⟨c2, _, by omega, mod_bound.1, mod_bound.2⟩, rfl⟩
  suffices h : ∃ u : U, (pk__law_urn.1 ([.d (.scr (ns.map D.int)), .d (.int (k : Int))].map some ++ List.replicate (3 - 2) none)).fin [.d (.scr (ns.map D.int)), .d (.int (k : Int))] = .ret (.o u.oc) [.d (.scr (ns.map D.int)), .d (.int (k : Int))] from let ⟨u, e⟩ := h; ⟨u, open_ e⟩
  unfold pk__law_urn
  rcases hk with hk | rfl
  · have hl : (k : Int) < ns.length := by omega
    have hx : ns[k]? = some ns[k] := List.getElem?_eq_getElem hk
    have hat : atI (ns.map D.int) (k : Int) = some (.int ns[k]) := by rw [DL.atI_nat, List.getElem?_map, hx]; rfl
    have h0 : 0 ≤ (if ns[k] < 0 then -ns[k] else ns[k]) % BIG := mod_b0
    by_cases g : 10 ^ 18 ≤ (if ns[k] < 0 then -ns[k] else ns[k]) % BIG
    · obtain ⟨u, e⟩ := mk h0 _ (.inl rfl)
      refine ⟨u, ?_⟩
      rw [← e]
      simp only [bind_ok, bind_ex, thenS_ok, thenS_ex, of_some, mC_eq, kVar, mVar_eq, kMove, mMove_eq, kD, mD_eq, kF, mF_eq, kBin2, kBin, mBin_eq, kBinB2, kBinB, mBinB_eq, kB, mB_eq, kT, mT_eq, kChain3, kChainB, kChain2, kChain, mChain_eq, kAnd, mAnd_eq, kOr, mOr_eq, kNot, mNot_eq, kAndV, mAndV_eq, kOrV, mOrV_eq, kNotV, mNotV_eq, kIf, mIf_eq, mNil_eq, kCons2, kCons, mCons_eq, kTupD, mTup_eq, kLst, mLst_eq, kUn, mUn_eq, kFun, mFun_eq, kFunL2, kFunL, mFunL_eq, kCat, mCat_eq, catK2, kStr2, kStr1, mStr1_eq, kSplit2, kSplit, mSplit_eq, mNo_eq, kPart, mPart_eq, kSl3, kSl2, kSl, mSl_eq, mJs_nil, kJs, mJs_cons, kLenS, mLenS_eq, kIxS3, kIxS2, kIxS, mIxS_eq, aNil_eq, kA2, kA, aD_eq, kAS2, kAS, aS_eq, kCall3, kCall2, kCall, mCall_eq, sSkip_eq, sSeq_eq, seq_nx, seq_rt, seq_ex, seq_bk, seq_ct, kRet, sRet_eq, kExpr, sExpr_eq, kIfS, sIf_eq, kSet, sSet_eq, kPar, sPar_eq, opt_some, kAsg, sAsg_eq, kApp3, kApp2, kApp, sApp_eq, kPut4, kPut3, kPut2, kPut1, kPut, sPut_eq, fin_nx, fin_rt, fin_ex, loop_nx, loop_ct, loop_bk, loop_rt, loop_ex, forL_nil, kTurn, forL_cons, kFor, sFor_eq, kWh, kSeq, mSeq_eq, mRange1_eq, mRange2_eq, mYes_eq, lcopt_some, lcout_ok, lcL_nil, kLc3, kLc2, kLc1, lcL_cons, kLcEnd, kLc, mLc_eq, cEq_int, cNe_int, gAdd, gNeg, cI, gInt, gIx, gLen, gAbs, gMax2, gMin2, gTuple, gList, gAll, bls?, gStr, gIsi, D.ty, gN, gTupl, gsCons, gsNil, atI_0, atI_1, atI_2, atI_3, atI_4, atI_5, atI_6, ixN_0, ixN_1, back, lookA, Arg.look, slotsA, modesFrom, outsFrom, restore, wipeR, SV.toD, OC.toD, List.map_cons, List.map_nil, List.replicate_succ, List.replicate_zero, List.cons_append, List.nil_append, List.getElem?_cons_zero, List.getElem?_cons_succ, List.getElem?_nil, List.set_cons_zero, List.set_cons_succ, List.length_cons, List.length_nil, List.length_map, List.nodup_cons, List.nodup_nil, List.not_mem_nil, List.mem_cons, Option.bind_some, Option.map_some, ↓reduceIte, decide_true, decide_false, Bool.not_true, Bool.not_false, and_self, and_true, true_and, not_false_eq_true, not_true_eq_false, or_false, false_or, Bool.false_eq_true, Nat.sub_self, beq_self_eq_true, Int.reduceBEq, Int.reduceLT, Int.reduceLE, Nat.reduceSub, szl_0, szs_0, szl_1, szs_1, szl_2, szs_2, szl_3, szs_3, szl_4, szs_4, szl_5, szs_5, szl_6, szs_6, szl_7, szs_7, szl_8, szs_8, szl_9, szs_9, szl_10, szs_10, szl_11, szs_11, szl_12, szs_12, gSub_int, gMul_small, gDiv_small, gMod_pos, hl, hat, k31, k23, pow60, pow55, pow18, mul1, mul2, mul3, mod_big, mul_9, mod_21, g]
    · obtain ⟨u, e⟩ := mk h0 _ (.inr rfl)
      refine ⟨u, ?_⟩
      rw [← e]
      simp only [bind_ok, bind_ex, thenS_ok, thenS_ex, of_some, mC_eq, kVar, mVar_eq, kMove, mMove_eq, kD, mD_eq, kF, mF_eq, kBin2, kBin, mBin_eq, kBinB2, kBinB, mBinB_eq, kB, mB_eq, kT, mT_eq, kChain3, kChainB, kChain2, kChain, mChain_eq, kAnd, mAnd_eq, kOr, mOr_eq, kNot, mNot_eq, kAndV, mAndV_eq, kOrV, mOrV_eq, kNotV, mNotV_eq, kIf, mIf_eq, mNil_eq, kCons2, kCons, mCons_eq, kTupD, mTup_eq, kLst, mLst_eq, kUn, mUn_eq, kFun, mFun_eq, kFunL2, kFunL, mFunL_eq, kCat, mCat_eq, catK2, kStr2, kStr1, mStr1_eq, kSplit2, kSplit, mSplit_eq, mNo_eq, kPart, mPart_eq, kSl3, kSl2, kSl, mSl_eq, mJs_nil, kJs, mJs_cons, kLenS, mLenS_eq, kIxS3, kIxS2, kIxS, mIxS_eq, aNil_eq, kA2, kA, aD_eq, kAS2, kAS, aS_eq, kCall3, kCall2, kCall, mCall_eq, sSkip_eq, sSeq_eq, seq_nx, seq_rt, seq_ex, seq_bk, seq_ct, kRet, sRet_eq, kExpr, sExpr_eq, kIfS, sIf_eq, kSet, sSet_eq, kPar, sPar_eq, opt_some, kAsg, sAsg_eq, kApp3, kApp2, kApp, sApp_eq, kPut4, kPut3, kPut2, kPut1, kPut, sPut_eq, fin_nx, fin_rt, fin_ex, loop_nx, loop_ct, loop_bk, loop_rt, loop_ex, forL_nil, kTurn, forL_cons, kFor, sFor_eq, kWh, kSeq, mSeq_eq, mRange1_eq, mRange2_eq, mYes_eq, lcopt_some, lcout_ok, lcL_nil, kLc3, kLc2, kLc1, lcL_cons, kLcEnd, kLc, mLc_eq, cEq_int, cNe_int, gAdd, gNeg, cI, gInt, gIx, gLen, gAbs, gMax2, gMin2, gTuple, gList, gAll, bls?, gStr, gIsi, D.ty, gN, gTupl, gsCons, gsNil, atI_0, atI_1, atI_2, atI_3, atI_4, atI_5, atI_6, ixN_0, ixN_1, back, lookA, Arg.look, slotsA, modesFrom, outsFrom, restore, wipeR, SV.toD, OC.toD, List.map_cons, List.map_nil, List.replicate_succ, List.replicate_zero, List.cons_append, List.nil_append, List.getElem?_cons_zero, List.getElem?_cons_succ, List.getElem?_nil, List.set_cons_zero, List.set_cons_succ, List.length_cons, List.length_nil, List.length_map, List.nodup_cons, List.nodup_nil, List.not_mem_nil, List.mem_cons, Option.bind_some, Option.map_some, ↓reduceIte, decide_true, decide_false, Bool.not_true, Bool.not_false, and_self, and_true, true_and, not_false_eq_true, not_true_eq_false, or_false, false_or, Bool.false_eq_true, Nat.sub_self, beq_self_eq_true, Int.reduceBEq, Int.reduceLT, Int.reduceLE, Nat.reduceSub, szl_0, szs_0, szl_1, szs_1, szl_2, szs_2, szl_3, szs_3, szl_4, szs_4, szl_5, szs_5, szl_6, szs_6, szl_7, szs_7, szl_8, szs_8, szl_9, szs_9, szl_10, szs_10, szl_11, szs_11, szl_12, szs_12, gSub_int, gMul_small, gDiv_small, gMod_pos, hl, hat, k31, k23, pow60, pow55, pow18, mul1, mul2, mul3, mod_big, mul_9, mod_21, g]
  · have h0 : 0 ≤ 31337 * (k : Int) + 777 := by omega
    have g : ¬ 10 ^ 18 ≤ 31337 * (k : Int) + 777 := by omega
    have hl : ¬ (k : Int) < 0 := by omega
    have c0 : (((0 : Nat)) : Int) = 0 := rfl
    obtain ⟨u, e⟩ := mk h0 _ (.inr rfl)
    refine ⟨u, ?_⟩
    rw [← e]
    simp only [bind_ok, bind_ex, thenS_ok, thenS_ex, of_some, mC_eq, kVar, mVar_eq, kMove, mMove_eq, kD, mD_eq, kF, mF_eq, kBin2, kBin, mBin_eq, kBinB2, kBinB, mBinB_eq, kB, mB_eq, kT, mT_eq, kChain3, kChainB, kChain2, kChain, mChain_eq, kAnd, mAnd_eq, kOr, mOr_eq, kNot, mNot_eq, kAndV, mAndV_eq, kOrV, mOrV_eq, kNotV, mNotV_eq, kIf, mIf_eq, mNil_eq, kCons2, kCons, mCons_eq, kTupD, mTup_eq, kLst, mLst_eq, kUn, mUn_eq, kFun, mFun_eq, kFunL2, kFunL, mFunL_eq, kCat, mCat_eq, catK2, kStr2, kStr1, mStr1_eq, kSplit2, kSplit, mSplit_eq, mNo_eq, kPart, mPart_eq, kSl3, kSl2, kSl, mSl_eq, mJs_nil, kJs, mJs_cons, kLenS, mLenS_eq, kIxS3, kIxS2, kIxS, mIxS_eq, aNil_eq, kA2, kA, aD_eq, kAS2, kAS, aS_eq, kCall3, kCall2, kCall, mCall_eq, sSkip_eq, sSeq_eq, seq_nx, seq_rt, seq_ex, seq_bk, seq_ct, kRet, sRet_eq, kExpr, sExpr_eq, kIfS, sIf_eq, kSet, sSet_eq, kPar, sPar_eq, opt_some, kAsg, sAsg_eq, kApp3, kApp2, kApp, sApp_eq, kPut4, kPut3, kPut2, kPut1, kPut, sPut_eq, fin_nx, fin_rt, fin_ex, loop_nx, loop_ct, loop_bk, loop_rt, loop_ex, forL_nil, kTurn, forL_cons, kFor, sFor_eq, kWh, kSeq, mSeq_eq, mRange1_eq, mRange2_eq, mYes_eq, lcopt_some, lcout_ok, lcL_nil, kLc3, kLc2, kLc1, lcL_cons, kLcEnd, kLc, mLc_eq, cEq_int, cNe_int, gAdd, gNeg, cI, gInt, gIx, gLen, gAbs, gMax2, gMin2, gTuple, gList, gAll, bls?, gStr, gIsi, D.ty, gN, gTupl, gsCons, gsNil, atI_0, atI_1, atI_2, atI_3, atI_4, atI_5, atI_6, ixN_0, ixN_1, back, lookA, Arg.look, slotsA, modesFrom, outsFrom, restore, wipeR, SV.toD, OC.toD, List.map_cons, List.map_nil, List.replicate_succ, List.replicate_zero, List.cons_append, List.nil_append, List.getElem?_cons_zero, List.getElem?_cons_succ, List.getElem?_nil, List.set_cons_zero, List.set_cons_succ, List.length_cons, List.length_nil, List.length_map, List.nodup_cons, List.nodup_nil, List.not_mem_nil, List.mem_cons, Option.bind_some, Option.map_some, ↓reduceIte, decide_true, decide_false, Bool.not_true, Bool.not_false, and_self, and_true, true_and, not_false_eq_true, not_true_eq_false, or_false, false_or, Bool.false_eq_true, Nat.sub_self, beq_self_eq_true, Int.reduceBEq, Int.reduceLT, Int.reduceLE, Nat.reduceSub, szl_0, szs_0, szl_1, szs_1, szl_2, szs_2, szl_3, szs_3, szl_4, szs_4, szl_5, szs_5, szl_6, szs_6, szl_7, szs_7, szl_8, szs_8, szl_9, szs_9, szl_10, szs_10, szl_11, szs_11, szl_12, szs_12, gSub_int, gMul_small, gDiv_small, gMod_pos, c0, hl, k31, k23, pow60, pow55, pow18, mul1, mul2, mul3, mod_big, mul_9, mod_21, g]
end Lw
namespace Lw
open PySem PySem.Spec PyProof.Rows L2 L2H DL DH HotX LamX
theorem cEq_str {x : Str} (h : PyData.strOk x = true) : cEq (.str x) (.str x) = some true := by
  unfold cEq
  simp only [pd]
  have s : SeqAt.shaped (.str x) = true := by
    unfold SeqAt.shaped PyData.canLay0
    rw [h]
    rfl
  rw [s]
  simp only [Bool.and_self, if_true, PyData.eqv, beq_self_eq_true]
def stP (s : St3) : PyData := .tuple [.int s.1, .int s.2.1, .int s.2.2]
theorem pd_rule (R : List St3) : pd (ruleD R) = some (.tuple (R.map stP)) := by
  have h : ∀ R : List St3, pdL (R.map stD) = some (R.map stP) := fun R => by
    induction R with
    | nil => rfl
    | cons s R ih =>
      rw [List.map_cons, pdL, ih]
      rfl
  rw [ruleD, pd, h]
  rfl
theorem eqv_st (R : List St3) : PyData.eqvAll (R.map stP) (R.map stP) = true := by
  induction R with
  | nil => rfl
  | cons s R ih => simp only [List.map_cons, PyData.eqvAll, ih, stP, PyData.eqv, beq_self_eq_true, Bool.and_self]
theorem lay_st (R : List St3) : PyData.canLayAll0 (R.map stP) = true ∧ PyData.depthAll (R.map stP) ≤ 3 := by
  induction R with
  | nil => exact ⟨rfl, by decide⟩
  | cons s R ih =>
    refine ⟨?_, ?_⟩
    · simp only [List.map_cons, PyData.canLayAll0, ih.1, stP, PyData.canLay0, Bool.and_self]
    · simp only [List.map_cons, PyData.depthAll, stP, PyData.depth] at ih ⊢
      omega
theorem cNe_told (R : List St3) : cNe (.tup [.str "told", ruleD R]) (.tup [.str "told", ruleD R]) = some false := by
  have h1 : pd (.tup [.str "told", ruleD R]) = some (.tuple [.str "told", .tuple (R.map stP)]) := by
    simp only [pd, pdL, pd_rule, Option.bind_some, Option.map_some]
  have s : SeqAt.shaped (.tuple [.str "told", .tuple (R.map stP)]) = true := by
    obtain ⟨l1, l2⟩ := lay_st R
    have t : PyData.strOk "told" = true := by decide +kernel
    unfold SeqAt.shaped
    rw [Bool.and_eq_true]
    refine ⟨by simp only [PyData.canLay0, PyData.canLayAll0, l1, t, Bool.and_self], decide_eq_true ?_⟩
    simp only [PyData.depth, PyData.depthAll]
    omega
  unfold cNe
  rw [h1]
  simp only [s, Bool.and_self, if_true, PyData.eqv, PyData.eqvAll, eqv_st, beq_self_eq_true, Bool.not_true]
theorem cNe_rule : cNe (.tup [.str (toldOf "InvalidRule")]) (.tup [.str "InvalidRule +"]) = some false := by decide +kernel
theorem cNe_house : cNe (.tup [.str (toldOf "InvalidHouse")]) (.tup [.str "InvalidHouse +"]) = some false := by decide +kernel
theorem cut_house (H : Hs) : ∃ a b, gSl H.d none (some 2) = some (.tup [a, b]) := by cases H <;> exact ⟨_, _, rfl⟩
theorem in_ks1 : ("InvalidRule" : Str) ∈ ks := by decide
theorem in_ks2 : ("InvalidHouse" : Str) ∈ ks := by decide
noncomputable def innerB : SM := (sSeq (sSet 6 (mCall [] m__law_text_of (aD (mVar 5) aNil)))
  (sSeq (sIf (mOr (mBinB cNe (mF (mCall [] m_rule_text (aD (mVar 3) (aD (mVar 5) aNil)))) (mVar 6))
      (mBinB cNe (mLaw ks (mF (mCall [] m_read_rule (aD (mVar 3) (aD (mVar 6) aNil))))) (mTup (mCons (mC (D.str "told")) (mCons (mVar 5) mNil))))) (sRet (mD (mC (D.bl false)))) sSkip)
  (sSeq (sIf (mBinB cNe (mLaw ks (mF (mCall [] m_rule_text (aD (mVar 3) (aD (mF (mFunL gList (mCons (mVar 5) mNil))) aNil))))) (mTup (mCons (mC (D.str "InvalidRule +")) mNil))) (sRet (mD (mC (D.bl false)))) sSkip)
  (sSeq (sIf (mBinB cNe (mLaw ks (mF (mCall [] m_rule_text (aD (mC D.non) (aD (mC D.non) aNil))))) (mTup (mCons (mC (D.str "InvalidHouse +")) mNil))) (sRet (mD (mC (D.bl false)))) sSkip)
    (sIf (mBinB cNe (mLaw ks (mF (mCall [] m_read_rule (aD (mSl (mVar 3) mNo (mPart (mC (D.int 2)))) (aD (mC D.non) aNil))))) (mTup (mCons (mC (D.str "InvalidHouse +")) mNil))) (sRet (mD (mC (D.bl false)))) sSkip)))))
noncomputable def outerB : SM := (sSeq (sSet 2 (mCall [] m__law_urn (aD (mVar 0) (aD (mVar 1) aNil))))
  (sSeq (sSet 3 (mCall [0] m__law_house (aS 2 (aD (mC (D.bl true)) aNil))))
  (sSeq (sSet 4 (mCall [0] m__law_rule (aS 2 (aD (mVar 3) (aD (mC (D.int 4)) aNil)))))
    (sFor (mSeq (mTup (mCons (mVar 4) (mCons (mF (mCall [0] m__law_close (aS 2 (aD (mVar 3) (aD (mVar 4) aNil))))) mNil)))) (gN 5) innerB))))
theorem inner_ok {H : Hs} {R : List St3} (hH : H.Ok) (hR : ROk H R) {x0 x1 x2 x4 x6 x7 : Option SV} :
    innerB [x0, x1, x2, some (.d H.d), x4, some (.d (ruleD R)), x6, x7] = .nx [x0, x1, x2, some (.d H.d), x4, some (.d (ruleD R)), some (.d (.str (textX R))), x7] := by
  obtain ⟨a, b, hc⟩ := cut_house H
  have t1 := cNe_str (text_ok hR)
  have gl : gList [ruleD R] = some (R.map stD) := rfl
  have i1 : ("InvalidRule" : Str) ∈ ks := in_ks1
  have i2 : ("InvalidHouse" : Str) ∈ ks := in_ks2
  have n1 : (none : Option (Str × D)).isNone = true := rfl
  unfold gList at gl
  unfold innerB
  simp only [bind_ok, bind_ex, thenS_ok, thenS_ex, of_some, mC_eq, kVar, mVar_eq, kMove, mMove_eq, kD, mD_eq, kF, mF_eq, kBin2, kBin, mBin_eq, kBinB2, kBinB, mBinB_eq, kB, mB_eq, kT, mT_eq, kChain3, kChainB, kChain2, kChain, mChain_eq, kAnd, mAnd_eq, kOr, mOr_eq, kNot, mNot_eq, kAndV, mAndV_eq, kOrV, mOrV_eq, kNotV, mNotV_eq, kIf, mIf_eq, mNil_eq, kCons2, kCons, mCons_eq, kTupD, mTup_eq, kLst, mLst_eq, kUn, mUn_eq, kFun, mFun_eq, kFunL2, kFunL, mFunL_eq, kCat, mCat_eq, catK2, kStr2, kStr1, mStr1_eq, kSplit2, kSplit, mSplit_eq, mNo_eq, kPart, mPart_eq, kSl3, kSl2, kSl, mSl_eq, mJs_nil, kJs, mJs_cons, kLenS, mLenS_eq, kIxS3, kIxS2, kIxS, mIxS_eq, aNil_eq, kA2, kA, aD_eq, kAS2, kAS, aS_eq, kCall3, kCall2, kCall, mCall_eq, kLaw, mLaw_eq, sSkip_eq, sSeq_eq, seq_nx, seq_rt, seq_ex, seq_bk, seq_ct, kRet, sRet_eq, kExpr, sExpr_eq, kIfS, sIf_eq, kSet, sSet_eq, kPar, sPar_eq, opt_some, kAsg, sAsg_eq, kApp3, kApp2, kApp, sApp_eq, kPut4, kPut3, kPut2, kPut1, kPut, sPut_eq, fin_nx, fin_rt, fin_ex, loop_nx, loop_ct, loop_bk, loop_rt, loop_ex, forL_nil, kTurn, forL_cons, kFor, sFor_eq, kWh, kSeq, mSeq_eq, mRange1_eq, mRange2_eq, mYes_eq, lcopt_some, lcout_ok, lcL_nil, kLc3, kLc2, kLc1, lcL_cons, kLcEnd, kLc, mLc_eq, cEq_int, cNe_int, gAdd, gNeg, cI, gInt, gIx, gLen, gAbs, gMax2, gMin2, gTuple, gList, gAll, bls?, gStr, gIsi, D.ty, gN, gTupl, gsCons, gsNil, atI_0, atI_1, atI_2, atI_3, atI_4, atI_5, atI_6, ixN_0, ixN_1, back, lookA, Arg.look, slotsA, modesFrom, outsFrom, restore, wipeR, SV.toD, OC.toD, List.map_cons, List.map_nil, List.replicate_succ, List.replicate_zero, List.cons_append, List.nil_append, List.getElem?_cons_zero, List.getElem?_cons_succ, List.getElem?_nil, List.set_cons_zero, List.set_cons_succ, List.length_cons, List.length_nil, List.length_map, List.nodup_cons, List.nodup_nil, List.not_mem_nil, List.mem_cons, Option.bind_some, Option.map_some, ↓reduceIte, decide_true, decide_false, Bool.not_true, Bool.not_false, and_self, and_true, true_and, not_false_eq_true, not_true_eq_false, or_false, false_or, Bool.false_eq_true, Nat.sub_self, beq_self_eq_true, Int.reduceBEq, Int.reduceLT, Int.reduceLE, Nat.reduceSub, szl_0, szs_0, szl_1, szs_1, szl_2, szs_2, szl_3, szs_3, szl_4, szs_4, szl_5, szs_5, szl_6, szs_6, szl_7, szs_7, szl_8, szs_8, szl_9, szs_9, szl_10, szs_10, szl_11, szs_11, szl_12, szs_12, gSub_int, gMul_small, gDiv_small, gMod_pos, lawtext_eq hR, ruletext_eq hH hR, readrule_eq hH hR, ruletext_list hH, ruletext_non, readrule_cut, hc, t1, cNe_told, cNe_rule, cNe_house, i1, i2, n1, gl]
theorem outer_ok {ns : List Int} {k : Nat} (hk : k < ns.length ∨ ns = []) (hk2 : k ≤ 20) {x2 x3 x4 x5 x6 x7 : Option SV} : ∃ y2 y3 y4 y5 y6 y7, outerB [some (.d (.scr (ns.map D.int))), some (.d (.int (0 + (k : Int)))), x2, x3, x4, x5, x6, x7] = .nx [some (.d (.scr (ns.map D.int))), some (.d (.int (0 + (k : Int)))), y2, y3, y4, y5, y6, y7] := by
  rw [Int.zero_add]
  obtain ⟨u, eu⟩ := urn_ex hk hk2
  obtain ⟨H, u1, hH, eh⟩ := house_ex u
  obtain ⟨R, u2, hR, er⟩ := rule_ex hH u1
  obtain ⟨R', u3, hR', ec⟩ := close_ex hH hR u2
  refine ⟨some (.o u3.oc), some (.d H.d), some (.d (ruleD R)), some (.d (ruleD R')), some (.d (.str (textX R'))), x7, ?_⟩
  unfold outerB
  simp only [bind_ok, bind_ex, thenS_ok, thenS_ex, of_some, mC_eq, kVar, mVar_eq, kMove, mMove_eq, kD, mD_eq, kF, mF_eq, kBin2, kBin, mBin_eq, kBinB2, kBinB, mBinB_eq, kB, mB_eq, kT, mT_eq, kChain3, kChainB, kChain2, kChain, mChain_eq, kAnd, mAnd_eq, kOr, mOr_eq, kNot, mNot_eq, kAndV, mAndV_eq, kOrV, mOrV_eq, kNotV, mNotV_eq, kIf, mIf_eq, mNil_eq, kCons2, kCons, mCons_eq, kTupD, mTup_eq, kLst, mLst_eq, kUn, mUn_eq, kFun, mFun_eq, kFunL2, kFunL, mFunL_eq, kCat, mCat_eq, catK2, kStr2, kStr1, mStr1_eq, kSplit2, kSplit, mSplit_eq, mNo_eq, kPart, mPart_eq, kSl3, kSl2, kSl, mSl_eq, mJs_nil, kJs, mJs_cons, kLenS, mLenS_eq, kIxS3, kIxS2, kIxS, mIxS_eq, aNil_eq, kA2, kA, aD_eq, kAS2, kAS, aS_eq, kCall3, kCall2, kCall, mCall_eq, kLaw, mLaw_eq, sSkip_eq, sSeq_eq, seq_nx, seq_rt, seq_ex, seq_bk, seq_ct, kRet, sRet_eq, kExpr, sExpr_eq, kIfS, sIf_eq, kSet, sSet_eq, kPar, sPar_eq, opt_some, kAsg, sAsg_eq, kApp3, kApp2, kApp, sApp_eq, kPut4, kPut3, kPut2, kPut1, kPut, sPut_eq, fin_nx, fin_rt, fin_ex, loop_nx, loop_ct, loop_bk, loop_rt, loop_ex, forL_nil, kTurn, forL_cons, kFor, sFor_eq, kWh, kSeq, mSeq_eq, mRange1_eq, mRange2_eq, mYes_eq, lcopt_some, lcout_ok, lcL_nil, kLc3, kLc2, kLc1, lcL_cons, kLcEnd, kLc, mLc_eq, cEq_int, cNe_int, gAdd, gNeg, cI, gInt, gIx, gLen, gAbs, gMax2, gMin2, gTuple, gList, gAll, bls?, gStr, gIsi, D.ty, gN, gTupl, gsCons, gsNil, atI_0, atI_1, atI_2, atI_3, atI_4, atI_5, atI_6, ixN_0, ixN_1, back, lookA, Arg.look, slotsA, modesFrom, outsFrom, restore, wipeR, SV.toD, OC.toD, List.map_cons, List.map_nil, List.replicate_succ, List.replicate_zero, List.cons_append, List.nil_append, List.getElem?_cons_zero, List.getElem?_cons_succ, List.getElem?_nil, List.set_cons_zero, List.set_cons_succ, List.length_cons, List.length_nil, List.length_map, List.nodup_cons, List.nodup_nil, List.not_mem_nil, List.mem_cons, Option.bind_some, Option.map_some, ↓reduceIte, decide_true, decide_false, Bool.not_true, Bool.not_false, and_self, and_true, true_and, not_false_eq_true, not_true_eq_false, or_false, false_or, Bool.false_eq_true, Nat.sub_self, beq_self_eq_true, Int.reduceBEq, Int.reduceLT, Int.reduceLE, Nat.reduceSub, szl_0, szs_0, szl_1, szs_1, szl_2, szs_2, szl_3, szs_3, szl_4, szs_4, szl_5, szs_5, szl_6, szs_6, szl_7, szs_7, szl_8, szs_8, szl_9, szs_9, szl_10, szs_10, szl_11, szs_11, szl_12, szs_12, gSub_int, gMul_small, gDiv_small, gMod_pos, eu, eh, er, ec, inner_ok hH hR, inner_ok hH hR']
theorem last_ok : m_rule_text [.d (.tup [.tup [.int 1, .int 1], .tup [.int 1], .int 3]), .d (.tup [.tup [.int 0, .int 1, .int 0], .tup [.int 1, .int 0, .int 0]])] = .ret (.d (.str (textX [(0, 1, 0), (1, 0, 0)]))) [.d (.tup [.tup [.int 1, .int 1], .tup [.int 1], .int 3]), .d (.tup [.tup [.int 0, .int 1, .int 0], .tup [.int 1, .int 0, .int 0]])] :=
  ruletext_eq (H := .two 1 1 1 3) (R := [(0, 1, 0), (1, 0, 0)]) ⟨by decide, by decide, by decide, by decide⟩ ⟨by decide, by decide, by decide, by decide⟩
theorem lastlines : ([(0, 1, 0), (1, 0, 0)] : List St3).map lineX = [("look at 0 empty 1 found 0" : Str), ("look at 1 then 0" : Str)] := by decide +kernel
theorem lastjoin : gJoin "\n" (.lst [.str "look at 0 empty 1 found 0", .str "look at 1 then 0"]) = some (.str (textX [(0, 1, 0), (1, 0, 0)])) := by
  have h := joinX (H := .two 1 1 1 3) (R := [(0, 1, 0), (1, 0, 0)]) ⟨by decide, by decide, by decide, by decide⟩
  rw [lastlines] at h
  exact h
theorem plain (ns : List Int) (hn : ns.length ≤ 63) (_ : ∀ z ∈ ns, Builtin.Int.intBits z ≤ 1048576) : ∃ cs, m_law [.d (.scr (ns.map D.int))] = .ret (.d (.bl true)) cs := by
  suffices h : ∃ cs, (pk_law.1 ([SV.d (.scr (ns.map D.int))].map some ++ List.replicate (8 - 1) none)).fin [.d (.scr (ns.map D.int))] = .ret (.d (.bl true)) cs from let ⟨cs, e⟩ := h; ⟨cs, (mDef_eq (nP := 1) (by rfl)).trans e⟩
  unfold pk_law
  simp only [bind_ok, bind_ex, thenS_ok, thenS_ex, of_some, mC_eq, kVar, mVar_eq, kMove, mMove_eq, kD, mD_eq, kF, mF_eq, kBin2, kBin, mBin_eq, kBinB2, kBinB, mBinB_eq, kB, mB_eq, kT, mT_eq, kChain3, kChainB, kChain2, kChain, mChain_eq, kAnd, mAnd_eq, kOr, mOr_eq, kNot, mNot_eq, kAndV, mAndV_eq, kOrV, mOrV_eq, kNotV, mNotV_eq, kIf, mIf_eq, mNil_eq, kCons2, kCons, mCons_eq, kTupD, mTup_eq, kLst, mLst_eq, kUn, mUn_eq, kFun, mFun_eq, kFunL2, kFunL, mFunL_eq, kCat, mCat_eq, catK2, kStr2, kStr1, mStr1_eq, kSplit2, kSplit, mSplit_eq, mNo_eq, kPart, mPart_eq, kSl3, kSl2, kSl, mSl_eq, mJs_nil, kJs, mJs_cons, kLenS, mLenS_eq, kIxS3, kIxS2, kIxS, mIxS_eq, aNil_eq, kA2, kA, aD_eq, kAS2, kAS, aS_eq, kCall3, kCall2, kCall, mCall_eq, kLaw, mLaw_eq, sSkip_eq, sSeq_eq, seq_nx, seq_rt, seq_ex, seq_bk, seq_ct, kRet, sRet_eq, kExpr, sExpr_eq, kIfS, sIf_eq, kSet, sSet_eq, kPar, sPar_eq, opt_some, kAsg, sAsg_eq, kApp3, kApp2, kApp, sApp_eq, kPut4, kPut3, kPut2, kPut1, kPut, sPut_eq, fin_nx, fin_rt, fin_ex, loop_nx, loop_ct, loop_bk, loop_rt, loop_ex, forL_nil, kTurn, forL_cons, kFor, sFor_eq, kWh, kSeq, mSeq_eq, mRange1_eq, mRange2_eq, mYes_eq, lcopt_some, lcout_ok, lcL_nil, kLc3, kLc2, kLc1, lcL_cons, kLcEnd, kLc, mLc_eq, cEq_int, cNe_int, gAdd, gNeg, cI, gInt, gIx, gLen, gAbs, gMax2, gMin2, gTuple, gList, gAll, bls?, gStr, gIsi, D.ty, gN, gTupl, gsCons, gsNil, atI_0, atI_1, atI_2, atI_3, atI_4, atI_5, atI_6, ixN_0, ixN_1, back, lookA, Arg.look, slotsA, modesFrom, outsFrom, restore, wipeR, SV.toD, OC.toD, List.map_cons, List.map_nil, List.replicate_succ, List.replicate_zero, List.cons_append, List.nil_append, List.getElem?_cons_zero, List.getElem?_cons_succ, List.getElem?_nil, List.set_cons_zero, List.set_cons_succ, List.length_cons, List.length_nil, List.length_map, List.nodup_cons, List.nodup_nil, List.not_mem_nil, List.mem_cons, Option.bind_some, Option.map_some, ↓reduceIte, decide_true, decide_false, Bool.not_true, Bool.not_false, and_self, and_true, true_and, not_false_eq_true, not_true_eq_false, or_false, false_or, Bool.false_eq_true, Nat.sub_self, beq_self_eq_true, Int.reduceBEq, Int.reduceLT, Int.reduceLE, Nat.reduceSub, szl_0, szs_0, szl_1, szs_1, szl_2, szs_2, szl_3, szs_3, szl_4, szs_4, szl_5, szs_5, szl_6, szs_6, szl_7, szs_7, szl_8, szs_8, szl_9, szs_9, szl_10, szs_10, szl_11, szs_11, szl_12, szs_12, gSub_int, gMul_small, gDiv_small, gMod_pos]
  generalize hm : (if (if (ns.length : Int) < 20 then (ns.length : Int) else 20) > 1 then if (ns.length : Int) < 20 then (ns.length : Int) else 20 else 1) = m
  have m1 : 0 ≤ m ∧ m ≤ 20 := by split at hm <;> (try split at hm) <;> omega
  have m2 : ∀ k : Nat, (k : Int) < m → k < ns.length ∨ ns = [] := fun k hk => by
    by_cases z : ns.length = 0
    · exact .inr (List.length_eq_zero_iff.mp z)
    · refine .inl ?_
      split at hm <;> (try split at hm) <;> omega
  rw [kR1 m1.1 (by omega)]
  simp only [thenS_ok, kFor]
  obtain ⟨ρ', e, hI⟩ := forL_inv (gt := gN 1) (b := outerB) (fun (i : Nat) => D.int (0 + (i : Int))) (fun rest ρ => (∀ i ∈ rest, (i : Int) < m) ∧ ∃ x1 x2 x3 x4 x5 x6 x7, ρ = [some (.d (.scr (ns.map D.int))), x1, x2, x3, x4, x5, x6, x7]) (fun k rest ρ ⟨hr, x1, x2, x3, x4, x5, x6, x7, hρ⟩ => by
    subst hρ
    have hk := hr k List.mem_cons_self
    obtain ⟨y2, y3, y4, y5, y6, y7, e⟩ := outer_ok (m2 k hk) (by omega) (x2 := x2) (x3 := x3) (x4 := x4) (x5 := x5) (x6 := x6) (x7 := x7)
    exact ⟨_, _, rfl, e, fun i hi => hr i (List.mem_cons_of_mem _ hi), _, _, _, _, _, _, _, rfl⟩) (List.range m.toNat) [some (.d (.scr (ns.map D.int))), none, none, none, none, none, none, none] ⟨fun i hi => by rw [List.mem_range] at hi; omega, _, _, _, _, _, _, _, rfl⟩
  obtain ⟨_, x1, x2, x3, x4, x5, x6, x7, hρ⟩ := hI
  subst hρ
  have t : PyData.strOk (textX [(0, 1, 0), (1, 0, 0)]) = true := text_ok (H := .two 1 1 1 3) ⟨by decide, by decide, by decide, by decide⟩
  refine ⟨[.d (.scr (ns.map D.int))], (congrArg (fun o => (SO.seq o _).fin _) e).trans ?_⟩
  simp only [bind_ok, bind_ex, thenS_ok, thenS_ex, of_some, mC_eq, kVar, mVar_eq, kMove, mMove_eq, kD, mD_eq, kF, mF_eq, kBin2, kBin, mBin_eq, kBinB2, kBinB, mBinB_eq, kB, mB_eq, kT, mT_eq, kChain3, kChainB, kChain2, kChain, mChain_eq, kAnd, mAnd_eq, kOr, mOr_eq, kNot, mNot_eq, kAndV, mAndV_eq, kOrV, mOrV_eq, kNotV, mNotV_eq, kIf, mIf_eq, mNil_eq, kCons2, kCons, mCons_eq, kTupD, mTup_eq, kLst, mLst_eq, kUn, mUn_eq, kFun, mFun_eq, kFunL2, kFunL, mFunL_eq, kCat, mCat_eq, catK2, kStr2, kStr1, mStr1_eq, kSplit2, kSplit, mSplit_eq, mNo_eq, kPart, mPart_eq, kSl3, kSl2, kSl, mSl_eq, mJs_nil, kJs, mJs_cons, kLenS, mLenS_eq, kIxS3, kIxS2, kIxS, mIxS_eq, aNil_eq, kA2, kA, aD_eq, kAS2, kAS, aS_eq, kCall3, kCall2, kCall, mCall_eq, kLaw, mLaw_eq, sSkip_eq, sSeq_eq, seq_nx, seq_rt, seq_ex, seq_bk, seq_ct, kRet, sRet_eq, kExpr, sExpr_eq, kIfS, sIf_eq, kSet, sSet_eq, kPar, sPar_eq, opt_some, kAsg, sAsg_eq, kApp3, kApp2, kApp, sApp_eq, kPut4, kPut3, kPut2, kPut1, kPut, sPut_eq, fin_nx, fin_rt, fin_ex, loop_nx, loop_ct, loop_bk, loop_rt, loop_ex, forL_nil, kTurn, forL_cons, kFor, sFor_eq, kWh, kSeq, mSeq_eq, mRange1_eq, mRange2_eq, mYes_eq, lcopt_some, lcout_ok, lcL_nil, kLc3, kLc2, kLc1, lcL_cons, kLcEnd, kLc, mLc_eq, cEq_int, cNe_int, gAdd, gNeg, cI, gInt, gIx, gLen, gAbs, gMax2, gMin2, gTuple, gList, gAll, bls?, gStr, gIsi, D.ty, gN, gTupl, gsCons, gsNil, atI_0, atI_1, atI_2, atI_3, atI_4, atI_5, atI_6, ixN_0, ixN_1, back, lookA, Arg.look, slotsA, modesFrom, outsFrom, restore, wipeR, SV.toD, OC.toD, List.map_cons, List.map_nil, List.replicate_succ, List.replicate_zero, List.cons_append, List.nil_append, List.getElem?_cons_zero, List.getElem?_cons_succ, List.getElem?_nil, List.set_cons_zero, List.set_cons_succ, List.length_cons, List.length_nil, List.length_map, List.nodup_cons, List.nodup_nil, List.not_mem_nil, List.mem_cons, Option.bind_some, Option.map_some, ↓reduceIte, decide_true, decide_false, Bool.not_true, Bool.not_false, and_self, and_true, true_and, not_false_eq_true, not_true_eq_false, or_false, false_or, Bool.false_eq_true, Nat.sub_self, beq_self_eq_true, Int.reduceBEq, Int.reduceLT, Int.reduceLE, Nat.reduceSub, szl_0, szs_0, szl_1, szs_1, szl_2, szs_2, szl_3, szs_3, szl_4, szs_4, szl_5, szs_5, szl_6, szs_6, szl_7, szs_7, szl_8, szs_8, szl_9, szs_9, szl_10, szs_10, szl_11, szs_11, szl_12, szs_12, gSub_int, gMul_small, gDiv_small, gMod_pos, last_ok, lastjoin, cEq_str t]
end Lw
open PySem PySem.W PyProof.Rows
set_option maxRecDepth 100000 in
set_option maxHeartbeats 0 in
theorem PySem.Challenge.cw_lookrounds_k15_rules_as_texts_holds : PySem.Challenge.rw_lookrounds_k15_rules_as_texts.Holds := by
  w_on; o_law; k_head; (case hw => w_witness2)
  k_fill
  refine LamX.walk_ofOwn (l := PySem.Challenge.rw_lookrounds_k15_rules_as_texts) (n := 63) (k := 8) (x := "script") (CX := fun w => L2N.CX (PySem.Challenge.rw_lookrounds_k15_rules_as_texts).prog w) rfl (by decide) rfl ⟨rfl, by decide, by decide⟩ (by decide +kernel) (fun w h Y => by first | exact PySem.W.km_in_of Y | exact PySem.W.kIn_of Y) ?F (fun w H s e s' z => DH.cx_never z)
  case F =>
    intro w mg fa h Y KX G hmg own
    refine' DH.nb_then KX G ?b_1 ?n_1
    (case b_1 => intro x hx; simp only [List.mem_cons, List.not_mem_nil, or_false] at hx; rcases hx with rfl | rfl | rfl | rfl | rfl | rfl | rfl | rfl | rfl | rfl | rfl | rfl | rfl | rfl | rfl | rfl | rfl | rfl | rfl | rfl <;> k_is)
    intro N
    refine' DH.cls_then "InvalidHappening" KX G ?a_2 ?b_2 ?c_2 ?d_2 ?n_2
    (case a_2 => k_is); (case b_2 => k_is); (case c_2 => k_is); (case d_2 => k_is)
    intro m_InvalidHappening
    refine' DH.cls_then "InvalidHouse" KX G ?a_3 ?b_3 ?c_3 ?d_3 ?n_3
    (case a_3 => k_is); (case b_3 => k_is); (case c_3 => k_is); (case d_3 => k_is)
    intro m_InvalidHouse
    refine' DH.cls_then "InvalidNumber" KX G ?a_4 ?b_4 ?c_4 ?d_4 ?n_4
    (case a_4 => k_is); (case b_4 => k_is); (case c_4 => k_is); (case d_4 => k_is)
    intro m_InvalidNumber
    refine' DH.cls_then "InvalidPlace" KX G ?a_5 ?b_5 ?c_5 ?d_5 ?n_5
    (case a_5 => k_is); (case b_5 => k_is); (case c_5 => k_is); (case d_5 => k_is)
    intro m_InvalidPlace
    refine' DH.cls_then "InvalidRow" KX G ?a_6 ?b_6 ?c_6 ?d_6 ?n_6
    (case a_6 => k_is); (case b_6 => k_is); (case c_6 => k_is); (case d_6 => k_is)
    intro m_InvalidRow
    refine' DH.cls_then "InvalidRule" KX G ?a_7 ?b_7 ?c_7 ?d_7 ?n_7
    (case a_7 => k_is); (case b_7 => k_is); (case c_7 => k_is); (case d_7 => k_is)
    intro m_InvalidRule
    refine' DH.cls_then "NoText" KX G ?a_8 ?b_8 ?c_8 ?d_8 ?n_8
    (case a_8 => k_is); (case b_8 => k_is); (case c_8 => k_is); (case d_8 => k_is)
    intro m_NoText
    refine' DH.cls_then "NothingToUndo" KX G ?a_9 ?b_9 ?c_9 ?d_9 ?n_9
    (case a_9 => k_is); (case b_9 => k_is); (case c_9 => k_is); (case d_9 => k_is)
    intro m_NothingToUndo
    refine' DH.cls_then "TooMany" KX G ?a_10 ?b_10 ?c_10 ?d_10 ?n_10
    (case a_10 => k_is); (case b_10 => k_is); (case c_10 => k_is); (case d_10 => k_is)
    intro m_TooMany
    refine' DH.cls_then "LookError" KX G ?a_11 ?b_11 ?c_11 ?d_11 ?n_11
    (case a_11 => k_is); (case b_11 => k_is); (case c_11 => k_is); (case d_11 => k_is)
    intro m_LookError
    refine' DH.exc_then KX m_InvalidHouse ?q_12 ?k_12 ?n_12
    (case q_12 => k_exc); (case k_12 => k_is)
    intro x_InvalidHouse
    refine' DH.exc_then KX m_InvalidRule ?q_13 ?k_13 ?n_13
    (case q_13 => k_exc); (case k_13 => k_is)
    intro x_InvalidRule
    refine' DH.exc_then KX m_NoText ?q_14 ?k_14 ?n_14
    (case q_14 => k_exc); (case k_14 => k_is)
    intro x_NoText
    refine' DH.kf_then KX m_InvalidHouse m_InvalidHappening m_InvalidHouse m_InvalidNumber m_InvalidPlace m_InvalidRow m_InvalidRule m_NoText m_NothingToUndo m_TooMany m_LookError ?e1_15 ?e2_15 ?e4_15 ?e5_15 ?e6_15 ?e7_15 ?e8_15 ?s_15 ?o_15 ?v_15 ?t_15 ?l_15 ?n_15
    (case e1_15 => k_is); (case e2_15 => k_is); (case e4_15 => k_is); (case e5_15 => k_is); (case e6_15 => k_is); (case e7_15 => k_is); (case e8_15 => k_is)
    (case o_15 => intro p hp; simp only [List.mem_cons, List.not_mem_nil, or_false] at hp; rcases hp with rfl | rfl | rfl | rfl | rfl | rfl | rfl | rfl | rfl <;> first | rfl | k_is)
    (case s_15 => first | rfl | k_is); (case v_15 => k_is); (case t_15 => k_is); (case l_15 => k_is)
    intro kf_InvalidHouse
    refine' DH.kf_then KX m_InvalidRule m_InvalidHappening m_InvalidHouse m_InvalidNumber m_InvalidPlace m_InvalidRow m_InvalidRule m_NoText m_NothingToUndo m_TooMany m_LookError ?e1_16 ?e2_16 ?e4_16 ?e5_16 ?e6_16 ?e7_16 ?e8_16 ?s_16 ?o_16 ?v_16 ?t_16 ?l_16 ?n_16
    (case e1_16 => k_is); (case e2_16 => k_is); (case e4_16 => k_is); (case e5_16 => k_is); (case e6_16 => k_is); (case e7_16 => k_is); (case e8_16 => k_is)
    (case o_16 => intro p hp; simp only [List.mem_cons, List.not_mem_nil, or_false] at hp; rcases hp with rfl | rfl | rfl | rfl | rfl | rfl | rfl | rfl | rfl <;> first | rfl | k_is)
    (case s_16 => first | rfl | k_is); (case v_16 => k_is); (case t_16 => k_is); (case l_16 => k_is)
    intro kf_InvalidRule
    refine' DH.const_then "MOST_STANDS" KX G ?a_17 ?n_17
    (case a_17 => k_is)
    intro c_MOST_STANDS
    refine' DH.const_then "FIGURES" KX G ?a_18 ?n_18
    (case a_18 => k_is)
    intro c_FIGURES
    refine' DH.funAt_then "is_int" Lw.st_is_int ["value", "low", "high"] KX G ?a_19 ?l_19 ?c_19 ?k_19 ?b_19 ?n_19
    (case a_19 => k_is); (case l_19 => k_is); (case c_19 => k_is); (case k_19 => k_is); (case b_19 => exact fun _ _ _ _ _ _ us hl => match us, hl with | [_, _, _], _ => rfl)
    intro A_is_int
    refine' DH.funAt_then "are_ints" Lw.st_are_ints ["value", "many", "low", "high"] KX G ?a_20 ?l_20 ?c_20 ?k_20 ?b_20 ?n_20
    (case a_20 => k_is); (case l_20 => k_is); (case c_20 => k_is); (case k_20 => k_is); (case b_20 => exact fun _ _ _ _ _ _ us hl => match us, hl with | [_, _, _, _], _ => rfl)
    intro A_are_ints
    refine' DH.funAt_then "is_house" Lw.st_is_house ["value"] KX G ?a_21 ?l_21 ?c_21 ?k_21 ?b_21 ?n_21
    (case a_21 => k_is); (case l_21 => k_is); (case c_21 => k_is); (case k_21 => k_is); (case b_21 => exact fun _ _ _ _ _ _ us hl => match us, hl with | [_], _ => rfl)
    intro A_is_house
    refine' DH.funAt_then "size_of" Lw.st_size_of ["house", "many"] KX G ?a_22 ?l_22 ?c_22 ?k_22 ?b_22 ?n_22
    (case a_22 => k_is); (case l_22 => k_is); (case c_22 => k_is); (case k_22 => k_is); (case b_22 => exact fun _ _ _ _ _ _ us hl => match us, hl with | [_, _], _ => rfl)
    intro A_size_of
    refine' DH.funAt_then "is_rule_of" Lw.st_is_rule_of ["house", "value"] KX G ?a_23 ?l_23 ?c_23 ?k_23 ?b_23 ?n_23
    (case a_23 => k_is); (case l_23 => k_is); (case c_23 => k_is); (case k_23 => k_is); (case b_23 => exact fun _ _ _ _ _ _ us hl => match us, hl with | [_, _], _ => rfl)
    intro A_is_rule_of
    refine' DH.funAt_then "need_house" Lw.st_need_house ["house"] KX G ?a_24 ?l_24 ?c_24 ?k_24 ?b_24 ?n_24
    (case a_24 => k_is); (case l_24 => k_is); (case c_24 => k_is); (case k_24 => k_is); (case b_24 => exact fun _ _ _ _ _ _ us hl => match us, hl with | [_], _ => rfl)
    intro A_need_house
    refine' DH.funAt_then "need_rule" Lw.st_need_rule ["house", "rule"] KX G ?a_25 ?l_25 ?c_25 ?k_25 ?b_25 ?n_25
    (case a_25 => k_is); (case l_25 => k_is); (case c_25 => k_is); (case k_25 => k_is); (case b_25 => exact fun _ _ _ _ _ _ us hl => match us, hl with | [_, _], _ => rfl)
    intro A_need_rule
    refine' DH.funAt_then "line_of" Lw.st_line_of ["state"] KX G ?a_26 ?l_26 ?c_26 ?k_26 ?b_26 ?n_26
    (case a_26 => k_is); (case l_26 => k_is); (case c_26 => k_is); (case k_26 => k_is); (case b_26 => exact fun _ _ _ _ _ _ us hl => match us, hl with | [_], _ => rfl)
    intro A_line_of
    refine' DH.funAt_then "text_of" Lw.st_text_of ["rule"] KX G ?a_27 ?l_27 ?c_27 ?k_27 ?b_27 ?n_27
    (case a_27 => k_is); (case l_27 => k_is); (case c_27 => k_is); (case k_27 => k_is); (case b_27 => exact fun _ _ _ _ _ _ us hl => match us, hl with | [_], _ => rfl)
    intro A_text_of
    refine' DH.funAt_then "figure" Lw.st_figure ["word"] KX G ?a_28 ?l_28 ?c_28 ?k_28 ?b_28 ?n_28
    (case a_28 => k_is); (case l_28 => k_is); (case c_28 => k_is); (case k_28 => k_is); (case b_28 => exact fun _ _ _ _ _ _ us hl => match us, hl with | [_], _ => rfl)
    intro A_figure
    refine' DH.funAt_then "state_in" Lw.st_state_in ["line"] KX G ?a_29 ?l_29 ?c_29 ?k_29 ?b_29 ?n_29
    (case a_29 => k_is); (case l_29 => k_is); (case c_29 => k_is); (case k_29 => k_is); (case b_29 => exact fun _ _ _ _ _ _ us hl => match us, hl with | [_], _ => rfl)
    intro A_state_in
    refine' DH.funAt_then "rule_text" Lw.st_rule_text ["house", "rule"] KX G ?a_30 ?l_30 ?c_30 ?k_30 ?b_30 ?n_30
    (case a_30 => k_is); (case l_30 => k_is); (case c_30 => k_is); (case k_30 => k_is); (case b_30 => exact fun _ _ _ _ _ _ us hl => match us, hl with | [_, _], _ => rfl)
    intro A_rule_text
    refine' DH.funAt_then "read_rule" Lw.st_read_rule ["house", "text"] KX G ?a_31 ?l_31 ?c_31 ?k_31 ?b_31 ?n_31
    (case a_31 => k_is); (case l_31 => k_is); (case c_31 => k_is); (case k_31 => k_is); (case b_31 => exact fun _ _ _ _ _ _ us hl => match us, hl with | [_, _], _ => rfl)
    intro A_read_rule
    refine' DH.funAt_then "_law_urn" Lw.st__law_urn ["script", "k"] KX G ?a_32 ?l_32 ?c_32 ?k_32 ?b_32 ?n_32
    (case a_32 => k_is); (case l_32 => k_is); (case c_32 => k_is); (case k_32 => k_is); (case b_32 => exact fun _ _ _ _ _ _ us hl => match us, hl with | [_, _], _ => rfl)
    intro A__law_urn
    refine' DH.funAt_then "_law_draws" Lw.st__law_draws ["urn", "many"] KX G ?a_33 ?l_33 ?c_33 ?k_33 ?b_33 ?n_33
    (case a_33 => k_is); (case l_33 => k_is); (case c_33 => k_is); (case k_33 => k_is); (case b_33 => exact fun _ _ _ _ _ _ us hl => match us, hl with | [_, _], _ => rfl)
    intro A__law_draws
    refine' DH.funAt_then "_law_house" Lw.st__law_house ["urn", "three"] KX G ?a_34 ?l_34 ?c_34 ?k_34 ?b_34 ?n_34
    (case a_34 => k_is); (case l_34 => k_is); (case c_34 => k_is); (case k_34 => k_is); (case b_34 => exact fun _ _ _ _ _ _ us hl => match us, hl with | [_, _], _ => rfl)
    intro A__law_house
    refine' DH.funAt_then "_law_fits" Lw.st__law_fits ["house", "many"] KX G ?a_35 ?l_35 ?c_35 ?k_35 ?b_35 ?n_35
    (case a_35 => k_is); (case l_35 => k_is); (case c_35 => k_is); (case k_35 => k_is); (case b_35 => exact fun _ _ _ _ _ _ us hl => match us, hl with | [_, _], _ => rfl)
    intro A__law_fits
    refine' DH.funAt_then "_law_rule" Lw.st__law_rule ["urn", "house", "most"] KX G ?a_36 ?l_36 ?c_36 ?k_36 ?b_36 ?n_36
    (case a_36 => k_is); (case l_36 => k_is); (case c_36 => k_is); (case k_36 => k_is); (case b_36 => exact fun _ _ _ _ _ _ us hl => match us, hl with | [_, _, _], _ => rfl)
    intro A__law_rule
    refine' DH.funAt_then "_law_close" Lw.st__law_close ["urn", "house", "rule"] KX G ?a_37 ?l_37 ?c_37 ?k_37 ?b_37 ?n_37
    (case a_37 => k_is); (case l_37 => k_is); (case c_37 => k_is); (case k_37 => k_is); (case b_37 => exact fun _ _ _ _ _ _ us hl => match us, hl with | [_, _, _], _ => rfl)
    intro A__law_close
    refine' DH.funAt_then "_law_kinds" Lw.st__law_kinds ["e"] KX G ?a_38 ?l_38 ?c_38 ?k_38 ?b_38 ?n_38
    (case a_38 => k_is); (case l_38 => k_is); (case c_38 => k_is); (case k_38 => k_is); (case b_38 => exact fun _ _ _ _ _ _ us hl => match us, hl with | [_], _ => rfl)
    intro A__law_kinds
    refine' DH.funAt_then "_law_call" Lw.st__law_call ["call_so"] KX G ?a_39 ?l_39 ?c_39 ?k_39 ?b_39 ?n_39
    (case a_39 => k_is); (case l_39 => k_is); (case c_39 => k_is); (case k_39 => k_is); (case b_39 => exact fun _ _ _ _ _ _ us hl => match us, hl with | [_], _ => rfl)
    intro A__law_call
    refine' DH.funAt_then "_law_text_of" Lw.st__law_text_of ["rule"] KX G ?a_40 ?l_40 ?c_40 ?k_40 ?b_40 ?n_40
    (case a_40 => k_is); (case l_40 => k_is); (case c_40 => k_is); (case k_40 => k_is); (case b_40 => exact fun _ _ _ _ _ _ us hl => match us, hl with | [_], _ => rfl)
    intro A__law_text_of
    refine' DH.law_fin (q := ((("law" : Str) ++ (".<locals>." : Str)) ++ ("<lambda>" : Str))) (st := Lw.st_law) (m := Lw.m_law) KX G hmg own ?a_41 ?lk_41 ?hcd_41 ?lc_41 ?hv_41 ?nP_41 ?ch_41 ?hb_41 ?plain_41 ?hF_41
    (case a_41 => k_is); (case lk_41 => k_is); (case hcd_41 => k_is); (case lc_41 => k_is); (case hv_41 => first | rfl | k_is); (case nP_41 => first | rfl | kernel_rfl | with_unfolding_all rfl); (case ch_41 => first | rfl | kernel_rfl | with_unfolding_all rfl); (case hb_41 => exact fun _ _ _ _ _ _ _ _ => .of_eq rfl)
    (case plain_41 => exact Lw.plain)
    exact fun base TB lk hcd => Lw.all_law N A_is_int A_are_ints A_is_house A_size_of A_is_rule_of A_need_house A_need_rule A_line_of A_text_of A_figure A_state_in A_rule_text A_read_rule A__law_urn A__law_draws A__law_house A__law_fits A__law_rule A__law_close A__law_kinds A__law_call A__law_text_of ⟨_, c_MOST_STANDS⟩ ⟨_, c_FIGURES⟩ x_InvalidHouse x_InvalidRule x_NoText (List.forall_mem_cons.mpr ⟨⟨_, kf_InvalidHouse⟩,  (List.forall_mem_cons.mpr ⟨⟨_, kf_InvalidRule⟩,  fun _ z => nomatch z ⟩) ⟩) ⟨_, m_TooMany.m⟩ ⟨_, m_LookError.m⟩ TB lk hcd

