import PyProof.Rows.All
import Wide.All
import OpenK.AllK
import Wide.FinOn
import HandS.ForMost
import HandS.ForExc
import HandS.Wide
import HandS.Defaults
import HandS.IsInst
import HandS.Flow
import HandS.Conv
import HandS.EndBits
import HandS.Head0
import HandS.Head1
import HandS.Head2
import HandS.HeadEnd
import HandS.HeadHook1
import HandS.HeadHook2
import HandS.SortInts
import HandS.Style
import PySem.Challenge.RW_hintscribe_k73_whole_fewest_worths
set_option Elab.async false
set_option linter.all false
set_option maxRecDepth 100000
set_option maxHeartbeats 1000000
/-! DL, part 1: values whose tuples (and lists that nobody changes any more) are trees, over the hand layer. -/
namespace DL
open PySem PySem.Spec L2

/-- the built-in classes that programs name -/
inductive Tg where
  | int | bool | str | tup | lst | dct | non
  deriving DecidableEq
def Tg.name : Tg → String
  | .int => "int" | .bool => "bool" | .str => "str" | .tup => "tuple" | .lst => "list" | .dct => "dict" | .non => "NoneType"
/-- a value: tuples, and lists that stay as they are, are trees (scr: a list that is read alone, the script) -/
inductive D where
  | non | bl (b : Bool) | int (i : Int) | str (x : Str) | ty (t : Tg)
  | tup (ds : List D) | lst (ds : List D) | scr (ds : List D)
  | ref (a : Addr)

/-- what may change, at an address -/
inductive GO where
  | lst (ds : List D)
  | dK (kvs : List (Key × D))
  | ins (C : Addr) (fs : List (Str × D))

abbrev GHp := Addr → Option GO
def gupd (G : GHp) (a : Addr) (o : GO) : GHp := fun b => if b = a then some o else G b
theorem gupd_same {G : GHp} {a : Addr} {o : GO} : gupd G a o a = some o := by unfold gupd; rw [if_pos rfl]
theorem gupd_ne {G : GHp} {a b : Addr} {o : GO} (h : b ≠ a) : gupd G a o b = G b := by unfold gupd; rw [if_neg h]
theorem gupd_gupd {G : GHp} {a : Addr} {o u : GO} : gupd (gupd G a o) a u = gupd G a u := by
  funext b; unfold gupd; split <;> rfl
theorem gupd_self {G : GHp} {a : Addr} {o : GO} (h : G a = some o) : gupd G a o = G := by
  funext b; unfold gupd; split
  · next e => rw [e, h]
  · rfl

/-- the part of the abstract heap that stays as it is: neither tracked by G nor hidden -/
def U (H : Hp) (G : GHp) (Z : Addr → Bool) : Hp := fun a => if (G a).isSome || Z a then none else H a
theorem U_some {H : Hp} {G : GHp} {Z : Addr → Bool} {a : Addr} {o : HO} (h : U H G Z a = some o) : G a = none ∧ Z a = false ∧ H a = some o := by
  unfold U at h
  split at h
  · cases h
  · next e =>
    simp only [Bool.or_eq_true, not_or, Bool.not_eq_true] at e
    refine ⟨?_, e.2, h⟩
    cases q : G a with
    | none => rfl
    | some x => rw [q] at e; simp at e
theorem U_of {H : Hp} {G : GHp} {Z : Addr → Bool} {a : Addr} {o : HO} (h1 : G a = none) (h2 : Z a = false) (h3 : H a = some o) : U H G Z a = some o := by
  unfold U
  rw [h1, h2]
  exact h3

mutual
/-- the value v is (the tree) d, in a heap that stays -/
inductive Rep (K : PySem.W.Frag) (W : Hp) : D → V → Prop
  | non : Rep K W .non .non
  | bl (b : Bool) : Rep K W (.bl b) (.bl b)
  | int (i : Int) : Rep K W (.int i) (.int i)
  | str (x : Str) : Rep K W (.str x) (.str x)
  | ty (t : Tg) : Rep K W (.ty t) (.ty t.name)
  | ref (a : Addr) : Rep K W (.ref a) (.ref a)
  | tup {a : Addr} {xs : List V} {ds : List D} : SqT K W a xs → Reps K W ds xs → Rep K W (.tup ds) (.ref a)
  | lst {a : Addr} {xs : List V} {ds : List D} : W a = some (.lst xs) → Reps K W ds xs → Rep K W (.lst ds) (.ref a)
  | scr {a : Addr} {xs : List V} {ds : List D} : SqL K W a xs → Reps K W ds xs → Rep K W (.scr ds) (.ref a)
inductive Reps (K : PySem.W.Frag) (W : Hp) : List D → List V → Prop
  | nil : Reps K W [] []
  | cons {d : D} {v : V} {ds : List D} {vs : List V} : Rep K W d v → Reps K W ds vs → Reps K W (d :: ds) (v :: vs)
end

theorem Rd.mono {W W' : Hp} (k : ∀ a o, W a = some o → W' a = some o) {a : Addr} {u : HO} (h : Rd W a u) : Rd W' a u := by
  rcases h with h | ⟨o, h⟩
  · exact .inl (k _ _ h)
  · exact .inr ⟨o, k _ _ h⟩
theorem SqT.mono {K : PySem.W.Frag} {W W' : Hp} (k : ∀ a o, W a = some o → W' a = some o) {a : Addr} {xs : List V} (h : SqT K W a xs) : SqT K W' a xs := by
  rcases h with h | h
  · exact .inl (Rd.mono k h)
  · exact .inr h
theorem SqL.mono {K : PySem.W.Frag} {W W' : Hp} (k : ∀ a o, W a = some o → W' a = some o) {a : Addr} {xs : List V} (h : SqL K W a xs) : SqL K W' a xs := by
  rcases h with h | h
  · exact .inl (Rd.mono k h)
  · exact .inr h

section
variable {K : PySem.W.Frag} {W W' : Hp}
mutual
theorem Rep.mono (k : ∀ a o, W a = some o → W' a = some o) : ∀ {d : D} {v : V}, Rep K W d v → Rep K W' d v
  | _, _, .non => .non
  | _, _, .bl b => .bl b
  | _, _, .int i => .int i
  | _, _, .str x => .str x
  | _, _, .ty n => .ty n
  | _, _, .ref a => .ref a
  | _, _, .tup h r => .tup (SqT.mono k h) (Reps.mono k r)
  | _, _, .lst h r => .lst (k _ _ h) (Reps.mono k r)
  | _, _, .scr h r => .scr (SqL.mono k h) (Reps.mono k r)
theorem Reps.mono (k : ∀ a o, W a = some o → W' a = some o) : ∀ {ds : List D} {vs : List V}, Reps K W ds vs → Reps K W' ds vs
  | _, _, .nil => .nil
  | _, _, .cons h r => .cons (Rep.mono k h) (Reps.mono k r)
end
theorem Reps.length : ∀ {ds : List D} {vs : List V}, Reps K W ds vs → ds.length = vs.length
  | _, _, .nil => rfl
  | _, _, .cons _ r => by simp [Reps.length r]
theorem Reps.append : ∀ {ds es : List D} {vs us : List V}, Reps K W ds vs → Reps K W es us → Reps K W (ds ++ es) (vs ++ us)
  | _, _, _, _, .nil, q => q
  | _, _, _, _, .cons h r, q => .cons h (Reps.append r q)
theorem Reps.take : ∀ {ds : List D} {vs : List V} (n : Nat), Reps K W ds vs → Reps K W (ds.take n) (vs.take n)
  | _, _, 0, _ => by simp only [List.take_zero]; exact .nil
  | _, _, n + 1, .nil => .nil
  | _, _, n + 1, .cons h r => .cons h (Reps.take n r)
theorem Reps.drop : ∀ {ds : List D} {vs : List V} (n : Nat), Reps K W ds vs → Reps K W (ds.drop n) (vs.drop n)
  | _, _, 0, r => r
  | _, _, n + 1, .nil => .nil
  | _, _, n + 1, .cons h r => Reps.drop n r
theorem Reps.get : ∀ {ds : List D} {vs : List V} {i : Nat} {d : D}, Reps K W ds vs → ds[i]? = some d → ∃ v, vs[i]? = some v ∧ Rep K W d v
  | _, _, 0, d, .cons h r, e => by
    simp at e; subst e; exact ⟨_, rfl, h⟩
  | _, _, i + 1, d, .cons h r, e => by
    obtain ⟨v, h1, h2⟩ := Reps.get (i := i) (d := d) r (by simpa using e)
    exact ⟨v, by simpa using h1, h2⟩
theorem Reps.get' : ∀ {ds : List D} {vs : List V} {i : Nat} {v : V}, Reps K W ds vs → vs[i]? = some v → ∃ d, ds[i]? = some d ∧ Rep K W d v
  | _, _, 0, d, .cons h r, e => by
    simp at e; subst e; exact ⟨_, rfl, h⟩
  | _, _, i + 1, d, .cons h r, e => by
    obtain ⟨v, h1, h2⟩ := Reps.get' (i := i) (v := d) r (by simpa using e)
    exact ⟨v, by simpa using h1, h2⟩
theorem Reps.set {d : D} {v : V} (h : Rep K W d v) : ∀ {ds : List D} {vs : List V} (i : Nat), Reps K W ds vs → Reps K W (ds.set i d) (vs.set i v)
  | _, _, _, .nil => .nil
  | _, _, 0, .cons _ r => .cons h r
  | _, _, i + 1, .cons q r => .cons q (Reps.set h i r)
theorem Reps.reverse : ∀ {ds : List D} {vs : List V}, Reps K W ds vs → Reps K W ds.reverse vs.reverse
  | _, _, .nil => .nil
  | _, _, .cons h r => by
    rw [List.reverse_cons, List.reverse_cons]
    exact Reps.append (Reps.reverse r) (.cons h .nil)
theorem Reps.ints : ∀ {ns : List Int} {vs : List V}, Reps K W (ns.map D.int) vs → vs = ns.map V.int
  | [], _, .nil => rfl
  | _ :: _, _, .cons h r => by
    cases h
    rw [List.map_cons, Reps.ints r]
theorem Reps.of_ints : ∀ (ns : List Int), Reps K W (ns.map D.int) (ns.map V.int)
  | [] => .nil
  | n :: r => .cons (.int n) (Reps.of_ints r)
theorem Reps.strs : ∀ {ns : List Str} {vs : List V}, Reps K W (ns.map D.str) vs → vs = ns.map V.str
  | [], _, .nil => rfl
  | _ :: _, _, .cons h r => by
    cases h
    rw [List.map_cons, Reps.strs r]
theorem Reps.bls : ∀ {ns : List Bool} {vs : List V}, Reps K W (ns.map D.bl) vs → vs = ns.map V.bl
  | [], _, .nil => rfl
  | _ :: _, _, .cons h r => by
    cases h
    rw [List.map_cons, Reps.bls r]
end

/-- slots: what is told holds -/
inductive RepO (K : PySem.W.Frag) (W : Hp) : Option D → Option V → Prop
  | no (o : Option V) : RepO K W none o
  | so {d : D} {v : V} : Rep K W d v → RepO K W (some d) (some v)
abbrev DSt := List (Option D)
def RepSt (K : PySem.W.Frag) (W : Hp) (δ : DSt) (σ : St) : Prop := Paired (RepO K W) δ σ
section
variable {K : PySem.W.Frag} {W W' : Hp}
theorem RepO.mono (k : ∀ a o, W a = some o → W' a = some o) {d : Option D} {v : Option V} (h : RepO K W d v) : RepO K W' d v := by
  cases h with
  | no => exact .no _
  | so h => exact .so (h.mono k)
theorem RepSt.mono (k : ∀ a o, W a = some o → W' a = some o) {δ : DSt} {σ : St} (h : RepSt K W δ σ) : RepSt K W' δ σ :=
  Paired.mapP h fun _ _ q => q.mono k
theorem RepSt.get {δ : DSt} {σ : St} (h : RepSt K W δ σ) : ∀ {i : Nat} {d : D}, δ[i]? = some (some d) → ∃ v, σ[i]? = some (some v) ∧ Rep K W d v := by
  induction h with
  | nil => intro i d e; simp at e
  | cons q t ih =>
    intro i d e
    cases i with
    | zero =>
      simp at e; subst e
      cases q with
      | so q => exact ⟨_, rfl, q⟩
    | succ i =>
      obtain ⟨v, h1, h2⟩ := ih (i := i) (d := d) (by simpa using e)
      exact ⟨v, by simpa using h1, h2⟩
theorem RepSt.set {δ : DSt} {σ : St} (h : RepSt K W δ σ) {d : D} {v : V} (q : Rep K W d v) : ∀ (i : Nat), RepSt K W (δ.set i (some d)) (σ.set i (some v)) := by
  induction h with
  | nil => intro i; exact .nil
  | cons r t ih =>
    intro i
    cases i with
    | zero => exact .cons (.so q) t
    | succ i => exact .cons r (ih i)
theorem RepSt.forget {δ : DSt} {σ : St} (h : RepSt K W δ σ) : ∀ (i : Nat) (o : Option V), RepSt K W (δ.set i none) (σ.set i o) := by
  induction h with
  | nil => intro i o; exact .nil
  | cons r t ih =>
    intro i o
    cases i with
    | zero => exact .cons (.no o) t
    | succ i => exact .cons r (ih i o)
theorem RepSt.length {δ : DSt} {σ : St} (h : RepSt K W δ σ) : δ.length = σ.length := Paired.length h
theorem RepSt.somes : ∀ {ds : List D} {vs : List V}, Reps K W ds vs → RepSt K W (ds.map some) (vs.map some)
  | _, _, .nil => .nil
  | _, _, .cons h r => .cons (.so h) (RepSt.somes r)
theorem RepSt.nones : ∀ (n : Nat), RepSt K W (List.replicate n none) (List.replicate n none)
  | 0 => .nil
  | n + 1 => .cons (.no _) (RepSt.nones n)
theorem RepSt.app {δ δ' : DSt} {σ σ' : St} (h : RepSt K W δ σ) (q : RepSt K W δ' σ') : RepSt K W (δ ++ δ') (σ ++ σ') := by
  induction h with
  | nil => exact q
  | cons r t ih => exact .cons r ih
end

/-- the tracked things are as G tells -/
def GOk (K : PySem.W.Frag) (H W : Hp) (a : Addr) : GO → Prop
  | .lst ds => ∃ xs, H a = some (.lst xs) ∧ Reps K W ds xs
  | .dK kvs => ∃ xs, H a = some (.dK xs) ∧ xs.map (·.1) = kvs.map (·.1) ∧ Reps K W (kvs.map (·.2)) (xs.map (·.2))
  | .ins C fs => ∃ dx xs, H a = some (.ins C dx xs) ∧ xs.map (·.1) = fs.map (·.1) ∧ Reps K W (fs.map (·.2)) (xs.map (·.2))
theorem GOk.mono {K : PySem.W.Frag} {H H' W W' : Hp} {a : Addr} {o : GO} (k : ∀ a o, W a = some o → W' a = some o) (e : H' a = H a) (h : GOk K H W a o) : GOk K H' W' a o := by
  cases o with
  | lst ds => obtain ⟨xs, h1, h2⟩ := h; exact ⟨xs, e.trans h1, h2.mono k⟩
  | dK kvs => obtain ⟨xs, h1, h2, h3⟩ := h; exact ⟨xs, e.trans h1, h2, h3.mono k⟩
  | ins C fs => obtain ⟨dx, xs, h1, h2, h3⟩ := h; exact ⟨dx, xs, e.trans h1, h2, h3.mono k⟩
theorem GOk.there {K : PySem.W.Frag} {H W : Hp} {a : Addr} {o : GO} (h : GOk K H W a o) : H a ≠ none := by
  cases o with
  | lst ds => obtain ⟨xs, h1, h2⟩ := h; rw [h1]; simp
  | dK kvs => obtain ⟨xs, h1, h2⟩ := h; rw [h1]; simp
  | ins C fs => obtain ⟨dx, xs, h1, h2⟩ := h; rw [h1]; simp
structure Ok (K : PySem.W.Frag) (H : Hp) (G : GHp) (Z : Addr → Bool) : Prop where
  ok : ∀ a o, G a = some o → Z a = false ∧ GOk K H (U H G Z) a o
  hid : ∀ a, Z a = true → H a ≠ none
/-- what stays, stays; what is hidden, too -/
structure Kp (H : Hp) (G : GHp) (Z : Addr → Bool) (H' : Hp) (G' : GHp) : Prop where
  keep : ∀ a o, U H G Z a = some o → U H' G' Z a = some o
  hid : ∀ a o, Z a = true → H a = some o → H' a = some o
theorem Kp.refl {H : Hp} {G : GHp} {Z : Addr → Bool} : Kp H G Z H G := ⟨fun _ _ h => h, fun _ _ _ h => h⟩
theorem Kp.trans {H H1 H2 : Hp} {G G1 G2 : GHp} {Z : Addr → Bool} (a : Kp H G Z H1 G1) (b : Kp H1 G1 Z H2 G2) : Kp H G Z H2 G2 :=
  ⟨fun x o h => b.keep x o (a.keep x o h), fun x o z h => b.hid x o z (a.hid x o z h)⟩

section
variable {K : PySem.W.Frag} {H H' : Hp} {G : GHp} {Z : Addr → Bool} {p : Addr} {o : HO}
theorem Ok.free (ok : Ok K H G Z) (h : H p = none) : G p = none ∧ Z p = false := by
  constructor
  · cases e : G p with
    | none => rfl
    | some x => exact absurd h (ok.ok p x e).2.there
  · cases e : Z p with
    | false => rfl
    | true => exact absurd h (ok.hid p e)
/-- a new thing that G doesn't track -/
theorem Kp.laid (h : H p = none) : Kp H G Z (upd H p o) G := by
  refine ⟨fun a u e => ?_, fun a u z e => ?_⟩
  · obtain ⟨h1, h2, h3⟩ := U_some e
    exact U_of h1 h2 (by rw [upd_ne (ne_of_none h3 h)]; exact h3)
  · rw [upd_ne (ne_of_none e h)]; exact e
theorem Ok.laid (ok : Ok K H G Z) (h : H p = none) : Ok K (upd H p o) G Z := by
  refine ⟨fun a u e => ?_, fun a z => ?_⟩
  · obtain ⟨z, g⟩ := ok.ok a u e
    have hne : a ≠ p := fun q => g.there (by rw [q]; exact h)
    exact ⟨z, g.mono (Kp.laid h).keep (upd_ne hne)⟩
  · by_cases hq : a = p
    · subst hq; rw [upd_same]; simp
    · rw [upd_ne hq]; exact ok.hid a z
theorem U_laid (ok : Ok K H G Z) (h : H p = none) : U (upd H p o) G Z p = some o := U_of (ok.free h).1 (ok.free h).2 upd_same
/-- a new thing that G tracks -/
theorem Kp.laidG {go : GO} (h : H p = none) (hg : G p = none) : Kp H G Z (upd H p o) (gupd G p go) := by
  refine ⟨fun a u e => ?_, fun a u z e => ?_⟩
  · obtain ⟨h1, h2, h3⟩ := U_some e
    have hne := ne_of_none h3 h
    exact U_of (by rw [gupd_ne hne]; exact h1) h2 (by rw [upd_ne hne]; exact h3)
  · rw [upd_ne (ne_of_none e h)]; exact e
theorem Ok.laidG {go : GO} (ok : Ok K H G Z) (h : H p = none) (g : GOk K (upd H p o) (U (upd H p o) (gupd G p go) Z) p go) : Ok K (upd H p o) (gupd G p go) Z := by
  refine ⟨fun a u e => ?_, fun a z => ?_⟩
  · by_cases hq : a = p
    · subst hq
      rw [gupd_same] at e; cases e
      exact ⟨(ok.free h).2, g⟩
    · rw [gupd_ne hq] at e
      obtain ⟨z, g'⟩ := ok.ok a u e
      exact ⟨z, g'.mono (Kp.laidG h (ok.free h).1).keep (upd_ne hq)⟩
  · by_cases hq : a = p
    · subst hq; rw [upd_same]; simp
    · rw [upd_ne hq]; exact ok.hid a z
/-- a tracked thing is written -/
theorem Kp.wrote {go go' : GO} (hg : G p = some go) (hz : Z p = false) : Kp H G Z (upd H p o) (gupd G p go') := by
  refine ⟨fun a u e => ?_, fun a u z e => ?_⟩
  · obtain ⟨h1, h2, h3⟩ := U_some e
    have hne : a ≠ p := fun q => by rw [q, hg] at h1; cases h1
    exact U_of (by rw [gupd_ne hne]; exact h1) h2 (by rw [upd_ne hne]; exact h3)
  · have hne : a ≠ p := fun q => by rw [q, hz] at z; cases z
    rw [upd_ne hne]; exact e
theorem Ok.wrote {go go' : GO} (ok : Ok K H G Z) (hg : G p = some go) (g : GOk K (upd H p o) (U (upd H p o) (gupd G p go') Z) p go') : Ok K (upd H p o) (gupd G p go') Z := by
  have hz := (ok.ok p go hg).1
  refine ⟨fun a u e => ?_, fun a z => ?_⟩
  · by_cases hq : a = p
    · subst hq
      rw [gupd_same] at e; cases e
      exact ⟨hz, g⟩
    · rw [gupd_ne hq] at e
      obtain ⟨z, g'⟩ := ok.ok a u e
      exact ⟨z, g'.mono (Kp.wrote hg hz).keep (upd_ne hq)⟩
  · by_cases hq : a = p
    · subst hq; rw [upd_same]; simp
    · rw [upd_ne hq]; exact ok.hid a z
end

/-! ### readings -/
abbrev DK := D → GHp → Prop
abbrev DTE := DSt → GHp → DK → Prop
abbrev DTT := DSt → GHp → (Bool → GHp → Prop) → Prop
abbrev DTA := DSt → GHp → (List D → GHp → Prop) → Prop
structure DEnds where
  nx : DSt → GHp → Prop
  rt : DK
  bk : DSt → GHp → Prop := fun _ _ => False
  ct : DSt → GHp → Prop := fun _ _ => False
abbrev DTS := DEnds → DSt → GHp → Prop

def cE (K : PySem.W.Frag) (t : DTE) : TE := fun σ H Q => ∃ (δ : DSt) (G : GHp) (Z : Addr → Bool) (Q0 : DK), Ok K H G Z ∧ RepSt K (U H G Z) δ σ ∧ t δ G Q0 ∧
  ∀ d G' v H', Q0 d G' → Kp H G Z H' G' → Ok K H' G' Z → Rep K (U H' G' Z) d v → Q v H'
def cT (K : PySem.W.Frag) (t : DTT) : TT := fun σ H Q => ∃ (δ : DSt) (G : GHp) (Z : Addr → Bool) (Q0 : Bool → GHp → Prop), Ok K H G Z ∧ RepSt K (U H G Z) δ σ ∧ t δ G Q0 ∧
  ∀ b G' H', Q0 b G' → Kp H G Z H' G' → Ok K H' G' Z → Q b H'
def cA (K : PySem.W.Frag) (t : DTA) : TA := fun σ H Q => ∃ (δ : DSt) (G : GHp) (Z : Addr → Bool) (Q0 : List D → GHp → Prop), Ok K H G Z ∧ RepSt K (U H G Z) δ σ ∧ t δ G Q0 ∧
  ∀ ds G' vs H', Q0 ds G' → Kp H G Z H' G' → Ok K H' G' Z → Reps K (U H' G' Z) ds vs → Q vs H'
/-- the ends answer one another, from (H, G) on -/
structure ELk (K : PySem.W.Frag) (Z : Addr → Bool) (D0 : DEnds) (E : Ends) (H : Hp) (G : GHp) : Prop where
  nx : ∀ δ' G' σ' H', D0.nx δ' G' → Kp H G Z H' G' → Ok K H' G' Z → RepSt K (U H' G' Z) δ' σ' → E.nx σ' H'
  bk : ∀ δ' G' σ' H', D0.bk δ' G' → Kp H G Z H' G' → Ok K H' G' Z → RepSt K (U H' G' Z) δ' σ' → E.bk σ' H'
  ct : ∀ δ' G' σ' H', D0.ct δ' G' → Kp H G Z H' G' → Ok K H' G' Z → RepSt K (U H' G' Z) δ' σ' → E.ct σ' H'
  rt : ∀ d G' v H', D0.rt d G' → Kp H G Z H' G' → Ok K H' G' Z → Rep K (U H' G' Z) d v → E.rt v H'
theorem ELk.after {K : PySem.W.Frag} {Z : Addr → Bool} {D0 : DEnds} {E : Ends} {H H1 : Hp} {G G1 : GHp} (e : ELk K Z D0 E H G) (k : Kp H G Z H1 G1) : ELk K Z D0 E H1 G1 :=
  ⟨fun δ' G' σ' H' h q => e.nx δ' G' σ' H' h (k.trans q), fun δ' G' σ' H' h q => e.bk δ' G' σ' H' h (k.trans q), fun δ' G' σ' H' h q => e.ct δ' G' σ' H' h (k.trans q), fun d G' v H' h q => e.rt d G' v H' h (k.trans q)⟩
def cS (K : PySem.W.Frag) (t : DTS) : TS := fun E σ H => ∃ (δ : DSt) (G : GHp) (Z : Addr → Bool) (D0 : DEnds), Ok K H G Z ∧ RepSt K (U H G Z) δ σ ∧ t D0 δ G ∧ ELk K Z D0 E H G

def DE (X : Cx) (e : Expr) (t : DTE) : Prop := PE X e (cE X.K t)
def DT (X : Cx) (e : Expr) (t : DTT) : Prop := PT X e (cT X.K t)
def DW (X : Cx) (e : Expr) (t : DTT) : Prop := PW X e (cT X.K t)
def DA (X : Cx) (es : List Expr) (t : DTA) : Prop := PA X es (cA X.K t)
def DS (X : Cx) (st : Stmt) (t : DTS) : Prop := PS X st (cS X.K t)
def DSs (X : Cx) (st : List Stmt) (t : DTS) : Prop := PSs X st (cS X.K t)

theorem PE.mono {X : Cx} {e : Expr} {t u : TE} (h : PE X e t) (k : ∀ σ H Q, u σ H Q → t σ H Q) : PE X e u :=
  ⟨fun pins s σ H Q I q => h.run pins s σ H Q I (k σ H Q q)⟩
theorem PT.mono {X : Cx} {e : Expr} {t u : TT} (h : PT X e t) (k : ∀ σ H Q, u σ H Q → t σ H Q) : PT X e u :=
  ⟨fun pins s σ H Q I q => h.run pins s σ H Q I (k σ H Q q)⟩
theorem PW.mono {X : Cx} {e : Expr} {t u : TT} (h : PW X e t) (k : ∀ σ H Q, u σ H Q → t σ H Q) : PW X e u :=
  ⟨fun wh pins s σ H Q I q => h.run wh pins s σ H Q I (k σ H Q q)⟩
theorem PA.mono {X : Cx} {e : List Expr} {t u : TA} (h : PA X e t) (k : ∀ σ H Q, u σ H Q → t σ H Q) : PA X e u :=
  ⟨fun pos pins s σ H Q I q => h.run pos pins s σ H Q I (k σ H Q q)⟩
theorem PS.mono {X : Cx} {e : Stmt} {t u : TS} (h : PS X e t) (k : ∀ D σ H, u D σ H → t D σ H) : PS X e u :=
  ⟨fun pins s σ H D I q => h.run pins s σ H D I (k D σ H q)⟩
theorem PSs.mono {X : Cx} {e : List Stmt} {t u : TS} (h : PSs X e t) (k : ∀ D σ H, u D σ H → t D σ H) : PSs X e u :=
  ⟨fun pins s σ H D I q => h.run pins s σ H D I (k D σ H q)⟩

/-- two ways by a Bool -/
def dIte (b : Bool) (P Q : Prop) : Prop := (b = true → P) ∧ (b = false → Q)
theorem dIte_cases {b : Bool} {P Q : Prop} (h : dIte b P Q) : if b = true then P else Q := by
  cases b with
  | true => rw [if_pos rfl]; exact h.1 rfl
  | false => rw [if_neg (by simp)]; exact h.2 rfl
theorem dIte_t {P Q : Prop} (h : dIte true P Q) : P := h.1 rfl
theorem dIte_f {P Q : Prop} (h : dIte false P Q) : Q := h.2 rfl
theorem dIte_true {P Q : Prop} (h : P) : dIte true P Q := ⟨fun _ => h, fun e => nomatch e⟩
theorem dIte_false {P Q : Prop} (h : Q) : dIte false P Q := ⟨fun e => (nomatch e), fun _ => h⟩

/-! ### names and constants -/
def dVar (i : Nat) : DTE := fun δ G Q => match δ[i]? with
  | some (some d) => Q d G
  | _ => False
def dC (d : D) : DTE := fun _ G Q => Q d G
section
variable {X : Cx} {a b c e : Expr} {ta tb tc te : DTE} {pos : Pos}
theorem de_var {i : Nat} {x : Str} (h : PE X (.Name x pos) (tVar i)) : DE X (.Name x pos) (dVar i) :=
  PE.mono h fun σ H Q ⟨δ, G, Z, Q0, ok, rs, h, k⟩ => by
    unfold dVar at h
    split at h
    · next d e =>
      obtain ⟨v, e1, r⟩ := rs.get e
      exact ⟨v, e1, k d G v H h .refl ok r⟩
    · exact h.elim
theorem de_c {v : V} {d : D} (h : PE X e (tC v)) (r : ∀ W, Rep X.K W d v) : DE X e (dC d) :=
  PE.mono h fun σ H Q ⟨δ, G, Z, Q0, ok, rs, h, k⟩ => k d G v H h .refl ok (r _)
theorem de_int {i j pos} : DE X (.Constant (.int i) j pos) (dC (.int i)) := de_c pe_int fun _ => .int i
theorem de_bl {b j pos} : DE X (.Constant (.bool b) j pos) (dC (.bl b)) := de_c pe_bl fun _ => .bl b
theorem de_non {j pos} : DE X (.Constant .none j pos) (dC .non) := de_c pe_non fun _ => .non
theorem de_str {x j pos} : DE X (.Constant (.str x) j pos) (dC (.str x)) := de_c pe_str fun _ => .str x

/-! ### operators -/
abbrev DR2 := D → D → GHp → DK → Prop
def cR2 (K : PySem.W.Frag) (r : DR2) : R2 := fun v u H Q => ∃ (x y : D) (G : GHp) (Z : Addr → Bool) (Q0 : DK), Ok K H G Z ∧ Rep K (U H G Z) x v ∧ Rep K (U H G Z) y u ∧ r x y G Q0 ∧
  ∀ d G' v' H', Q0 d G' → Kp H G Z H' G' → Ok K H' G' Z → Rep K (U H' G' Z) d v' → Q v' H'
def dOp (r : DR2) (ta tb : DTE) : DTE := fun δ G Q => ta δ G fun x G1 => tb δ G1 fun y G2 => r x y G2 Q
theorem op_split {σ : St} {H : Hp} {Q : VK} {r : DR2} {K : PySem.W.Frag} (h : cE K (dOp r ta tb) σ H Q) : tOp (cR2 K r) (cE K ta) (cE K tb) σ H Q := by
  obtain ⟨δ, G, Z, Q0, ok, rs, h, k⟩ := h
  exact ⟨δ, G, Z, _, ok, rs, h, fun x G1 v H1 h1 k1 ok1 r1 => ⟨δ, G1, Z, _, ok1, rs.mono k1.keep, h1, fun y G2 u H2 h2 k2 ok2 r2 =>
    ⟨x, y, G2, Z, Q0, ok2, r1.mono k2.keep, r2, h2, fun d G' v' H' q k3 ok3 r3 => k d G' v' H' q (k1.trans (k2.trans k3)) ok3 r3⟩⟩⟩
def DOp (X : Cx) (f : Value → Value → Sem Value) (r : DR2) : Prop := OpR X f (cR2 X.K r)
theorem de_op {op : Operator} {r : DR2} (ho : DOp X (binaryOp op) r) (ha : DE X a ta) (hb : DE X b tb) : DE X (.BinOp a op b pos) (dOp r ta tb) :=
  PE.mono (pe_op ho ha hb) fun _ _ _ h => op_split h
theorem de_cmp {op : CmpOp} {r : DR2} (ho : DOp X (compareOp op) r) (ha : DE X a ta) (hb : DE X b tb) (hm : behindInMarks op b = false) : DE X (.Compare a [op] [b] pos) (dOp r ta tb) :=
  PE.mono (pe_cmpR ho ha hb hm) fun _ _ _ h => op_split h
abbrev DR1 := D → GHp → DK → Prop
def cR1 (K : PySem.W.Frag) (r : DR1) : V → Hp → VK → Prop := fun v H Q => ∃ (x : D) (G : GHp) (Z : Addr → Bool) (Q0 : DK), Ok K H G Z ∧ Rep K (U H G Z) x v ∧ r x G Q0 ∧
  ∀ d G' v' H', Q0 d G' → Kp H G Z H' G' → Ok K H' G' Z → Rep K (U H' G' Z) d v' → Q v' H'
def dUn (r : DR1) (ta : DTE) : DTE := fun δ G Q => ta δ G fun x G1 => r x G1 Q
theorem un_split {σ : St} {H : Hp} {Q : VK} {r : DR1} {K : PySem.W.Frag} (h : cE K (dUn r ta) σ H Q) : tUn (cR1 K r) (cE K ta) σ H Q := by
  obtain ⟨δ, G, Z, Q0, ok, rs, h, k⟩ := h
  exact ⟨δ, G, Z, _, ok, rs, h, fun x G1 v H1 h1 k1 ok1 r1 => ⟨x, G1, Z, Q0, ok1, r1, h1, fun d G' v' H' q k3 ok3 r3 => k d G' v' H' q (k1.trans k3) ok3 r3⟩⟩
def DUn (X : Cx) (f : Value → Sem Value) (r : DR1) : Prop := UnR X f (cR1 X.K r)
theorem de_un {op : UnaryOp} {r : DR1} (ho : DUn X (unaryOp op) r) (ha : DE X a ta) : DE X (.UnaryOp op a pos) (dUn r ta) :=
  PE.mono (pe_un ho ha) fun _ _ _ h => un_split h
def dChain (r r' : DR2) (ta tb tc : DTE) : DTE := fun δ G Q => ta δ G fun x G1 => tb δ G1 fun y G2 => r x y G2 fun z G3 => match z with
  | .bl k => dIte k (tc δ G3 fun w G4 => r' y w G4 Q) (Q (.bl false) G3)
  | _ => False
theorem chain_split {σ : St} {H : Hp} {Q : VK} {r r' : DR2} {K : PySem.W.Frag} (h : cE K (dChain r r' ta tb tc) σ H Q) : tChain (cR2 K r) (cR2 K r') (cE K ta) (cE K tb) (cE K tc) σ H Q := by
  obtain ⟨δ, G, Z, Q0, ok, rs, h, k⟩ := h
  exact
    ⟨δ, G, Z, _, ok, rs, h, fun x G1 v H1 h1 k1 ok1 r1 => ⟨δ, G1, Z, _, ok1, rs.mono k1.keep, h1, fun y G2 u H2 h2 k2 ok2 r2 =>
      ⟨x, y, G2, Z, _, ok2, r1.mono k2.keep, r2, h2, fun d G3 v' H3 q k3 ok3 r3 => by
        cases d with
        | bl b =>
          cases r3
          refine ⟨b, rfl, ?_⟩
          have q := dIte_cases q
          cases b with
          | true =>
            rw [if_pos rfl] at q ⊢
            exact ⟨δ, G3, Z, _, ok3, rs.mono (k1.trans (k2.trans k3)).keep, q, fun w G4 w' H4 q4 k4 ok4 r4 => ⟨y, w, G4, Z, Q0, ok4, r2.mono (k3.trans k4).keep, r4, q4, fun d G' v' H' q k5 ok5 r5 =>
              k d G' v' H' q (k1.trans (k2.trans (k3.trans (k4.trans k5)))) ok5 r5⟩⟩
          | false =>
            rw [if_neg (by simp)] at q ⊢
            exact k _ _ _ _ q (k1.trans (k2.trans k3)) ok3 (.bl false)
        | _ => exact q.elim⟩⟩⟩
theorem de_chain {op op' : CmpOp} {r r' : DR2} (ho : DOp X (compareOp op) r) (ho' : DOp X (compareOp op') r') (ha : DE X a ta) (hb : DE X b tb) (hc : DE X c tc)
    (hm : lastMarks [op, op'] [b, c] = false := by with_unfolding_all rfl) : DE X (.Compare a [op, op'] [b, c] pos) (dChain r r' ta tb tc) :=
  PE.mono (pe_chain ho ho' ha hb hc hm) fun σ H Q h => chain_split h

/-! ### argument lists, displays -/
def dNil : DTA := fun _ G Q => Q [] G
def dCons (ta : DTE) (tr : DTA) : DTA := fun δ G Q => ta δ G fun x G1 => tr δ G1 fun xs G2 => Q (x :: xs) G2
theorem da_nil : DA X [] dNil := PA.mono pa_nil fun σ H Q ⟨δ, G, Z, Q0, ok, rs, h, k⟩ => k _ _ _ _ h .refl ok .nil
theorem da_cons {es : List Expr} {t : DTA} (ha : DE X e te) (hr : DA X es t) (hs : starEach (e :: es) X.env = (false, eval e X.env) :: starEach es X.env := by rfl) : DA X (e :: es) (dCons te t) :=
  PA.mono (pa_cons ha hr hs) fun σ H Q ⟨δ, G, Z, Q0, ok, rs, h, k⟩ =>
    ⟨δ, G, Z, _, ok, rs, h, fun x G1 v H1 h1 k1 ok1 r1 => ⟨δ, G1, Z, _, ok1, rs.mono k1.keep, h1, fun xs G2 us H2 h2 k2 ok2 r2 => k _ _ _ _ h2 (k1.trans k2) ok2 (.cons (r1.mono k2.keep) r2)⟩⟩
/-- (a, b, ..) -/
def dTup (t : DTA) : DTE := fun δ G Q => t δ G fun ds G1 => ds.length ≤ sizeLine ∧ Q (.tup ds) G1
theorem de_tup {es : List Expr} {t : DTA} {x1} (h : DA X es t) : DE X (.Tuple es x1 pos) (dTup t) :=
  PE.mono (pe_tup h) fun σ H Q ⟨δ, G, Z, Q0, ok, rs, h, k⟩ =>
    ⟨δ, G, Z, _, ok, rs, h, fun ds G1 vs H1 h1 k1 ok1 r1 => ⟨by rw [← r1.length]; exact h1.1, fun p hp =>
      k _ _ _ _ h1.2 (k1.trans (Kp.laid hp)) (ok1.laid hp) (.tup (SqT.of (U_laid ok1 hp)) (r1.mono (Kp.laid hp).keep))⟩⟩
/-- [a, b, ..], not to be changed -/
def dLst (t : DTA) : DTE := fun δ G Q => t δ G fun ds G1 => ds.length ≤ sizeLine ∧ Q (.lst ds) G1
theorem de_lst {es : List Expr} {t : DTA} (h : DA X es t) : DE X (.List es pos) (dLst t) :=
  PE.mono (pe_lst h) fun σ H Q ⟨δ, G, Z, Q0, ok, rs, h, k⟩ =>
    ⟨δ, G, Z, _, ok, rs, h, fun ds G1 vs H1 h1 k1 ok1 r1 => ⟨by rw [← r1.length]; exact h1.1, fun p hp =>
      k _ _ _ _ h1.2 (k1.trans (Kp.laid hp)) (ok1.laid hp) (.lst (U_laid ok1 hp) (r1.mono (Kp.laid hp).keep))⟩⟩
/-- [a, b, ..], to be changed: at an address of its own -/
def dLstM (t : DTA) : DTE := fun δ G Q => t δ G fun ds G1 => ds.length ≤ sizeLine ∧ ∀ p, G1 p = none → Q (.ref p) (gupd G1 p (.lst ds))
theorem de_lstM {es : List Expr} {t : DTA} (h : DA X es t) : DE X (.List es pos) (dLstM t) :=
  PE.mono (pe_lst h) fun σ H Q ⟨δ, G, Z, Q0, ok, rs, h, k⟩ =>
    ⟨δ, G, Z, _, ok, rs, h, fun ds G1 vs H1 h1 k1 ok1 r1 => ⟨by rw [← r1.length]; exact h1.1, fun p hp => by
      have hg := (ok1.free hp).1
      have kk : Kp H1 G1 Z (upd H1 p (.lst vs)) (gupd G1 p (.lst ds)) := Kp.laidG hp hg
      exact k _ _ _ _ (h1.2 p hg) (k1.trans kk) (ok1.laidG hp ⟨vs, upd_same, r1.mono kk.keep⟩) (.ref p)⟩⟩
end
end DL
set_option Elab.async false
set_option linter.all false
set_option maxRecDepth 100000
set_option maxHeartbeats 1000000
/-! DL, part 2: tests, statements, targets, loops, comprehensions, calls. -/
namespace DL
open PySem PySem.Spec L2

/-! ### tests -/
/-- a value's truth -/
def dTru (x : D) (G : GHp) (Q : Bool → GHp → Prop) : Prop := match x with
  | .bl b => Q b G
  | .non => Q false G
  | .int i => Q (i != 0) G
  | .str y => y.length ≤ sizeLine ∧ Q ((y.length : Int) != 0) G
  | .tup ds => Q (!ds.isEmpty) G
  | .lst ds => Q (!ds.isEmpty) G
  | .scr ds => Q (!ds.isEmpty) G
  | .ref a => match G a with
    | some (.lst ds) => Q (!ds.isEmpty) G
    | some (.dK kvs) => Q (!kvs.isEmpty) G
    | _ => False
  | .ty _ => False
theorem Reps.isEmpty {K : PySem.W.Frag} {W : Hp} {ds : List D} {vs : List V} (r : Reps K W ds vs) : vs.isEmpty = ds.isEmpty := by cases r <;> rfl
theorem U_le {H : Hp} {G : GHp} {Z : Addr → Bool} : ∀ a o, U H G Z a = some o → H a = some o := fun a o h => (U_some h).2.2
theorem isEmpty_keys {κ α β : Type} {l : List (κ × α)} {m : List (κ × β)} (h : l.map (·.1) = m.map (·.1)) : l.isEmpty = m.isEmpty := by
  have := congrArg List.length h
  simp only [List.length_map] at this
  cases l <;> cases m <;> simp at this <;> rfl
theorem tru_of {K : PySem.W.Frag} {H : Hp} {G : GHp} {Z : Addr → Bool} {x : D} {v : V} {Q0 : Bool → GHp → Prop} (ok : Ok K H G Z) (r : Rep K (U H G Z) x v) (h : dTru x G Q0) : ∃ k, TruV K v H k ∧ Q0 k G := by
  cases r with
  | non => exact ⟨false, rfl, h⟩
  | bl b => exact ⟨b, rfl, h⟩
  | int i => exact ⟨_, rfl, h⟩
  | str y => exact ⟨_, ⟨h.1, rfl⟩, h.2⟩
  | ty n => exact h.elim
  | tup q rs => exact ⟨_, .inr (.inl ⟨_, SqT.mono U_le q, by rw [rs.isEmpty]⟩), h⟩
  | lst q rs => exact ⟨_, .inl ⟨_, SqL.of (U_le _ _ q), by rw [rs.isEmpty]⟩, h⟩
  | scr q rs => exact ⟨_, .inl ⟨_, SqL.mono U_le q, by rw [rs.isEmpty]⟩, h⟩
  | ref a =>
    unfold dTru at h
    split at h <;> try (first | cases ‹D.ref a = _› | skip)
    all_goals try (exact h.elim)
    split at h
    · next ds e =>
      obtain ⟨_, xs, h1, h2⟩ := ok.ok a _ e
      exact ⟨_, .inl ⟨xs, SqL.of h1, by rw [h2.isEmpty]⟩, h⟩
    · next kvs e =>
      obtain ⟨_, xs, h1, h2, h3⟩ := ok.ok a _ e
      exact ⟨_, .inr (.inr ⟨xs, h1, by rw [isEmpty_keys h2]⟩), h⟩
    · exact h.elim
def dTest (te : DTE) : DTT := fun δ G Q => te δ G fun x G1 => dTru x G1 Q
section
variable {X : Cx} {a b c e : Expr} {ta tb tc te : DTE} {tA tB tC : DTT} {pos : Pos} {rest : List Expr}
/-- an expression as a test, by its truth -/
theorem dt_truth (ha : DE X a ta) (he : ∀ whole, isTrue a X.env whole = (do let v ← whole; standAt a.pos; holding [v] (truthy v)) := by intro _; rfl) : DT X a (dTest ta) :=
  PT.mono (pt_truth ha he) fun σ H Q ⟨δ, G, Z, Q0, ok, rs, h, k⟩ =>
    ⟨δ, G, Z, _, ok, rs, h, fun x G1 v H1 h1 k1 ok1 r1 => by
      obtain ⟨b, tv, q⟩ := tru_of ok1 r1 h1
      exact ⟨b, tv, k _ _ _ q k1 ok1⟩⟩
/-- a comparison as a test -/
def dTestB (te : DTE) : DTT := fun δ G Q => te δ G fun x G1 => match x with
  | .bl k => Q k G1
  | _ => False
theorem test_split {K : PySem.W.Frag} {te : DTE} {t : TE} {σ : St} {H : Hp} {Q : Bool → Hp → Prop} (hs : ∀ Q, cE K te σ H Q → t σ H Q) (h : cT K (dTestB te) σ H Q) : tTest t σ H Q := by
  obtain ⟨δ, G, Z, Q0, ok, rs, h, k⟩ := h
  refine hs _ ⟨δ, G, Z, _, ok, rs, h, fun d G1 v H1 h1 k1 ok1 r1 => ?_⟩
  cases r1 with
  | bl b => exact ⟨b, rfl, k _ _ _ h1 k1 ok1⟩
  | _ => exact False.elim h1
theorem dt_cmp {op : CmpOp} {r : DR2} (ho : DOp X (compareOp op) r) (ha : DE X a ta) (hb : DE X b tb) (hm : behindInMarks op b = false) : DT X (.Compare a [op] [b] pos) (dTestB (dOp r ta tb)) :=
  PT.mono (pt_cmpR ho ha hb hm) fun σ H Q h => test_split (fun _ h => op_split h) h
theorem dt_chain {op op' : CmpOp} {r r' : DR2} (ho : DOp X (compareOp op) r) (ho' : DOp X (compareOp op') r') (ha : DE X a ta) (hb : DE X b tb) (hc : DE X c tc)
    (hm : lastMarks [op, op'] [b, c] = false := by with_unfolding_all rfl) : DT X (.Compare a [op, op'] [b, c] pos) (dTestB (dChain r r' ta tb tc)) :=
  PT.mono (pt_chain ho ho' ha hb hc hm) fun σ H Q h => test_split (fun _ h => chain_split h) h
def dAnd (t u : DTT) : DTT := fun δ G Q => t δ G fun c G1 => dIte c (u δ G1 Q) (Q false G1)
def dOr (t u : DTT) : DTT := fun δ G Q => t δ G fun c G1 => dIte c (Q true G1) (u δ G1 Q)
def dNot (t : DTT) : DTT := fun δ G Q => t δ G fun c G1 => Q (!c) G1
theorem dw_and1 (ha : DT X a tA) : DW X (.BoolOp .And [a] pos) tA := pw_and1 ha
theorem dw_or1 (ha : DT X a tA) : DW X (.BoolOp .Or [a] pos) tA := pw_or1 ha
theorem dw_and (ha : DT X a tA) (hb : DW X (.BoolOp .And (b :: rest) pos) tB) : DW X (.BoolOp .And (a :: b :: rest) pos) (dAnd tA tB) :=
  PW.mono (pw_and ha hb) fun σ H Q ⟨δ, G, Z, Q0, ok, rs, h, k⟩ =>
    ⟨δ, G, Z, _, ok, rs, h, fun c G1 H1 h1 k1 ok1 => by
      cases c with
      | true =>
        have h1 := dIte_t h1
        refine iteT ?_
        exact ⟨δ, G1, Z, Q0, ok1, rs.mono k1.keep, h1, fun b G' H' q k2 ok2 => k _ _ _ q (k1.trans k2) ok2⟩
      | false =>
        have h1 := dIte_f h1
        refine iteF ?_
        exact k _ _ _ h1 k1 ok1⟩
theorem dw_or (ha : DT X a tA) (hb : DW X (.BoolOp .Or (b :: rest) pos) tB) : DW X (.BoolOp .Or (a :: b :: rest) pos) (dOr tA tB) :=
  PW.mono (pw_or ha hb) fun σ H Q ⟨δ, G, Z, Q0, ok, rs, h, k⟩ =>
    ⟨δ, G, Z, _, ok, rs, h, fun c G1 H1 h1 k1 ok1 => by
      cases c with
      | true =>
        have h1 := dIte_t h1
        refine iteT ?_
        exact k _ _ _ h1 k1 ok1
      | false =>
        have h1 := dIte_f h1
        refine iteF ?_
        exact ⟨δ, G1, Z, Q0, ok1, rs.mono k1.keep, h1, fun b G' H' q k2 ok2 => k _ _ _ q (k1.trans k2) ok2⟩⟩
theorem dt_w (h : DW X e tA) : DT X e tA := PW.pt h
theorem dt_not (ha : DT X a tA) : DT X (.UnaryOp .Not a pos) (dNot tA) :=
  PT.mono (pt_not ha) fun σ H Q ⟨δ, G, Z, Q0, ok, rs, h, k⟩ =>
    ⟨δ, G, Z, _, ok, rs, h, fun c G1 H1 h1 k1 ok1 => k _ _ _ h1 k1 ok1⟩
/-! and, or, not as values, by truth -/
def dAndV (ta tb : DTE) : DTE := fun δ G Q => ta δ G fun x G1 => dTru x G1 fun c G2 => dIte c (tb δ G2 Q) (Q x G2)
def dOrV (ta tb : DTE) : DTE := fun δ G Q => ta δ G fun x G1 => dTru x G1 fun c G2 => dIte c (Q x G2) (tb δ G2 Q)
def dNotV (ta : DTE) : DTE := fun δ G Q => ta δ G fun x G1 => dTru x G1 fun c G2 => Q (.bl (!c)) G2
theorem de_one {op} (h : DE X a ta) : DE X (.BoolOp op [a] pos) ta := pe_one h
theorem de_and (ha : DE X a ta) (hb : DE X (.BoolOp .And (b :: rest) pos) tb) : DE X (.BoolOp .And (a :: b :: rest) pos) (dAndV ta tb) :=
  PE.mono (pe_andT ha hb) fun σ H Q ⟨δ, G, Z, Q0, ok, rs, h, k⟩ =>
    ⟨δ, G, Z, _, ok, rs, h, fun x G1 v H1 h1 k1 ok1 r1 => by
      obtain ⟨c, tv, q⟩ := tru_of ok1 r1 h1
      refine ⟨c, tv, ?_⟩
      cases c with
      | true =>
        have q := dIte_t q
        refine iteT ?_
        exact ⟨δ, G1, Z, Q0, ok1, rs.mono k1.keep, q, fun b G' v' H' q k2 ok2 r2 => k _ _ _ _ q (k1.trans k2) ok2 r2⟩
      | false =>
        have q := dIte_f q
        refine iteF ?_
        exact k _ _ _ _ q k1 ok1 r1⟩
theorem de_or (ha : DE X a ta) (hb : DE X (.BoolOp .Or (b :: rest) pos) tb) : DE X (.BoolOp .Or (a :: b :: rest) pos) (dOrV ta tb) :=
  PE.mono (pe_orT ha hb) fun σ H Q ⟨δ, G, Z, Q0, ok, rs, h, k⟩ =>
    ⟨δ, G, Z, _, ok, rs, h, fun x G1 v H1 h1 k1 ok1 r1 => by
      obtain ⟨c, tv, q⟩ := tru_of ok1 r1 h1
      refine ⟨c, tv, ?_⟩
      cases c with
      | true =>
        have q := dIte_t q
        refine iteT ?_
        exact k _ _ _ _ q k1 ok1 r1
      | false =>
        have q := dIte_f q
        refine iteF ?_
        exact ⟨δ, G1, Z, Q0, ok1, rs.mono k1.keep, q, fun b G' v' H' q k2 ok2 r2 => k _ _ _ _ q (k1.trans k2) ok2 r2⟩⟩
theorem de_not (ha : DE X a ta) : DE X (.UnaryOp .Not a pos) (dNotV ta) :=
  PE.mono (pe_notT ha) fun σ H Q ⟨δ, G, Z, Q0, ok, rs, h, k⟩ =>
    ⟨δ, G, Z, _, ok, rs, h, fun x G1 v H1 h1 k1 ok1 r1 => by
      obtain ⟨c, tv, q⟩ := tru_of ok1 r1 h1
      exact ⟨c, tv, k _ _ _ _ q k1 ok1 (.bl _)⟩⟩
/-- a if t else b -/
def dIfE (t : DTT) (ta tb : DTE) : DTE := fun δ G Q => t δ G fun c G1 => dIte c (ta δ G1 Q) (tb δ G1 Q)
theorem de_ifExp (hc : DT X c tC) (ha : DE X a ta) (hb : DE X b tb) : DE X (.IfExp c a b pos) (dIfE tC ta tb) :=
  PE.mono (pe_ifExp hc ha hb) fun σ H Q ⟨δ, G, Z, Q0, ok, rs, h, k⟩ =>
    ⟨δ, G, Z, _, ok, rs, h, fun c G1 H1 h1 k1 ok1 => by
      cases c with
      | true =>
        have h1 := dIte_t h1
        refine iteT ?_
        exact ⟨δ, G1, Z, Q0, ok1, rs.mono k1.keep, h1, fun b G' v' H' q k2 ok2 r2 => k _ _ _ _ q (k1.trans k2) ok2 r2⟩
      | false =>
        have h1 := dIte_f h1
        refine iteF ?_
        exact ⟨δ, G1, Z, Q0, ok1, rs.mono k1.keep, h1, fun b G' v' H' q k2 ok2 r2 => k _ _ _ _ q (k1.trans k2) ok2 r2⟩⟩
end

/-! ### blocks and statements -/
section
variable {X : Cx} {st : Stmt} {rest : List Stmt} {t u : DTS} {e : Expr} {te : DTE} {tc : DTT} {pos : Pos}
def dNext : DTS := fun D δ G => D.nx δ G
def dSeq (t u : DTS) : DTS := fun D δ G => t { D with nx := u D } δ G
theorem dss_nil : DSs X [] dNext := PSs.mono pss_nil fun E σ H ⟨δ, G, Z, D0, ok, rs, h, l⟩ => l.nx _ _ _ _ h .refl ok rs
theorem dss_cons (h1 : DS X st t) (h2 : DSs X rest u) : DSs X (st :: rest) (dSeq t u) :=
  PSs.mono (pss_cons h1 h2) fun E σ H ⟨δ, G, Z, D0, ok, rs, h, l⟩ =>
    ⟨δ, G, Z, _, ok, rs, h, ⟨fun δ' G' σ' H' q k1 ok1 rs1 => ⟨δ', G', Z, D0, ok1, rs1, q, l.after k1⟩, l.bk, l.ct, l.rt⟩⟩
theorem dss_one (h1 : DS X st t) : DSs X [st] t := pss_one h1
theorem ds_pass : DS X (.Pass pos) dNext := PS.mono ps_pass fun E σ H ⟨δ, G, Z, D0, ok, rs, h, l⟩ => l.nx _ _ _ _ h .refl ok rs
def dBreak : DTS := fun D δ G => D.bk δ G
def dCont : DTS := fun D δ G => D.ct δ G
theorem ds_break : DS X (.Break pos) dBreak := PS.mono ps_break fun E σ H ⟨δ, G, Z, D0, ok, rs, h, l⟩ => l.bk _ _ _ _ h .refl ok rs
theorem ds_continue : DS X (.Continue pos) dCont := PS.mono ps_continue fun E σ H ⟨δ, G, Z, D0, ok, rs, h, l⟩ => l.ct _ _ _ _ h .refl ok rs
def dDrop (te : DTE) : DTS := fun D δ G => te δ G fun _ G1 => D.nx δ G1
theorem ds_expr (he : DE X e te) (hs : swapsWith e none pos.line X.env = pure false := by rfl) : DS X (.Expr e pos) (dDrop te) :=
  PS.mono (ps_expr he hs) fun E σ H ⟨δ, G, Z, D0, ok, rs, h, l⟩ =>
    ⟨δ, G, Z, _, ok, rs, h, fun d G' v H' q k1 ok1 r1 => l.nx _ _ _ _ q k1 ok1 (rs.mono k1.keep)⟩
def dRet (te : DTE) : DTS := fun D δ G => te δ G D.rt
theorem ds_ret (he : DE X e te) : DS X (.Return (some e) pos) (dRet te) :=
  PS.mono (ps_ret he) fun E σ H ⟨δ, G, Z, D0, ok, rs, h, l⟩ => ⟨δ, G, Z, _, ok, rs, h, fun d G' v H' q k1 ok1 r1 => l.rt _ _ _ _ q k1 ok1 r1⟩
def dRetN : DTS := fun D _ G => D.rt .non G
theorem ds_retN : DS X (.Return none pos) dRetN := PS.mono ps_retN fun E σ H ⟨δ, G, Z, D0, ok, rs, h, l⟩ => l.rt _ _ _ _ h .refl ok .non
def dIf (c : DTT) (t u : DTS) : DTS := fun D δ G => c δ G fun b G1 => dIte b (t D δ G1) (u D δ G1)
theorem ds_if {c : Expr} {a b : List Stmt} (hc : DT X c tc) (ha : DSs X a t) (hb : DSs X b u) : DS X (.If c a b pos) (dIf tc t u) :=
  PS.mono (ps_if hc ha hb) fun E σ H ⟨δ, G, Z, D0, ok, rs, h, l⟩ =>
    ⟨δ, G, Z, _, ok, rs, h, fun c G1 H1 h1 k1 ok1 => by
      cases c with
      | true =>
        have h1 := dIte_t h1
        refine iteT ?_
        exact ⟨δ, G1, Z, D0, ok1, rs.mono k1.keep, h1, l.after k1⟩
      | false =>
        have h1 := dIte_f h1
        refine iteF ?_
        exact ⟨δ, G1, Z, D0, ok1, rs.mono k1.keep, h1, l.after k1⟩⟩
def dNever : DTS := fun _ _ _ => False
theorem ds_never : DS X st dNever := PS.mono ps_never fun E σ H ⟨δ, G, Z, D0, ok, rs, h, l⟩ => h
theorem dss_never {sts : List Stmt} : DSs X sts dNever := PSs.mono pss_never fun E σ H ⟨δ, G, Z, D0, ok, rs, h, l⟩ => h
/-- what is told may be told otherwise (a list that nobody changes any more becomes a tree; things are forgotten) -/
def View (K : PySem.W.Frag) (δ : DSt) (G : GHp) (δ' : DSt) (G' : GHp) : Prop := ∀ H Z σ, Ok K H G Z → RepSt K (U H G Z) δ σ → Kp H G Z H G' ∧ Ok K H G' Z ∧ RepSt K (U H G' Z) δ' σ
def dGhost (K : PySem.W.Frag) (t : DTS) : DTS := fun D δ G => ∃ δ' G', View K δ G δ' G' ∧ t D δ' G'
theorem ds_ghost (h : DS X st t) : DS X st (dGhost X.K t) :=
  PS.mono h fun E σ H ⟨δ, G, Z, D0, ok, rs, ⟨δ', G', vw, h⟩, l⟩ => by
    obtain ⟨k1, ok1, rs1⟩ := vw H Z σ ok rs
    exact ⟨δ', G', Z, D0, ok1, rs1, h, l.after k1⟩
theorem dss_ghost {sts : List Stmt} (h : DSs X sts t) : DSs X sts (dGhost X.K t) :=
  PSs.mono h fun E σ H ⟨δ, G, Z, D0, ok, rs, ⟨δ', G', vw, h⟩, l⟩ => by
    obtain ⟨k1, ok1, rs1⟩ := vw H Z σ ok rs
    exact ⟨δ', G', Z, D0, ok1, rs1, h, l.after k1⟩
end

/-! ### targets: names, tuples of targets -/
inductive Tgt where
  | nm (i : Nat)
  | tp (ts : List Tgt)
mutual
def Tgt.tg (K : PySem.W.Frag) : Tgt → TG
  | .nm i => gName i
  | .tp ts => gTup K (Tgt.len ts) (Tgt.tgs K ts)
def Tgt.tgs (K : PySem.W.Frag) : List Tgt → TGs
  | [] => gNil
  | t :: r => gCons (Tgt.tg K t) (Tgt.tgs K r)
def Tgt.len : List Tgt → Nat
  | [] => 0
  | _ :: r => Tgt.len r + 1
end
mutual
def Tgt.set : Tgt → D → DSt → Option DSt
  | .nm i, d, δ => some (δ.set i (some d))
  | .tp ts, .tup ds, δ => Tgt.sets ts ds δ
  | .tp _, _, _ => none
def Tgt.sets : List Tgt → List D → DSt → Option DSt
  | [], [], δ => some δ
  | t :: ts, d :: ds, δ => match Tgt.set t d δ with
    | some δ' => Tgt.sets ts ds δ'
    | none => none
  | _, _, _ => none
end
mutual
def Tgt.slots : Tgt → List Nat
  | .nm i => [i]
  | .tp ts => Tgt.slotsL ts
def Tgt.slotsL : List Tgt → List Nat
  | [] => []
  | t :: r => Tgt.slots t ++ Tgt.slotsL r
end
theorem Tgt.len_eq : ∀ ts : List Tgt, Tgt.len ts = ts.length
  | [] => rfl
  | _ :: r => by rw [Tgt.len, Tgt.len_eq r]; rfl
theorem wipe_set {σ : St} {vs : List Nat} {i : Nat} {o : Option V} (h : i ∈ vs) : wipe (σ.set i o) vs = wipe σ vs := by
  induction vs with
  | nil => simp at h
  | cons v r ih =>
    rw [wipe, wipe]
    by_cases hv : i = v
    · subst hv
      by_cases hr : i ∈ r
      · rw [ih hr]
      · have : ∀ r : List Nat, i ∉ r → wipe (σ.set i o) r = (wipe σ r).set i o := by
          intro r
          induction r with
          | nil => intro _; rfl
          | cons w r ih =>
            intro hn
            simp only [List.mem_cons, not_or] at hn
            rw [wipe, wipe, ih hn.2, List.set_comm _ _ hn.1]
        rw [this r hr, List.set_set]
    · have hr : i ∈ r := by simpa [hv] using h
      rw [ih hr]
section
variable {K : PySem.W.Frag} {W : Hp}
mutual
theorem Tgt.run {H : Hp} (le : ∀ a o, W a = some o → H a = some o) : ∀ (t : Tgt) {d : D} {v : V} {δ δ' : DSt} {σ : St} {Q : St → Hp → Prop}, Rep K W d v → RepSt K W δ σ → t.set d δ = some δ' →
    (∀ σ', RepSt K W δ' σ' → (∀ vs : List Nat, (∀ i ∈ t.slots, i ∈ vs) → wipe σ' vs = wipe σ vs) → Q σ' H) → t.tg K v σ H Q
  | .nm i, d, v, δ, δ', σ, Q, r, rs, e, k => by
    simp only [Tgt.set, Option.some.injEq] at e
    subst e
    exact k _ (rs.set r i) fun vs h => wipe_set (h i (by simp [Tgt.slots]))
  | .tp ts, d, v, δ, δ', σ, Q, r, rs, e, k => by
    cases r with
    | tup q rr =>
      simp only [Tgt.set] at e
      refine ⟨_, _, rfl, SqT.mono le q, ?_, Tgt.runs le ts rr rs e fun σ' rs' hw => k σ' rs' fun vs h => hw vs fun i hi => h i (by simpa [Tgt.slots] using hi)⟩
      rw [← rr.length]
      exact Tgt.sets_len ts e
    | _ => simp [Tgt.set] at e
theorem Tgt.runs {H : Hp} (le : ∀ a o, W a = some o → H a = some o) : ∀ (ts : List Tgt) {ds : List D} {vs : List V} {δ δ' : DSt} {σ : St} {Q : St → Hp → Prop}, Reps K W ds vs → RepSt K W δ σ → Tgt.sets ts ds δ = some δ' →
    (∀ σ', RepSt K W δ' σ' → (∀ vs : List Nat, (∀ i ∈ Tgt.slotsL ts, i ∈ vs) → wipe σ' vs = wipe σ vs) → Q σ' H) → Tgt.tgs K ts vs σ H Q
  | [], ds, vs, δ, δ', σ, Q, r, rs, e, k => by
    cases r with
    | nil =>
      simp only [Tgt.sets, Option.some.injEq] at e
      subst e
      exact ⟨rfl, k σ rs fun _ _ => rfl⟩
    | cons _ _ => simp [Tgt.sets] at e
  | t :: ts, ds, vs, δ, δ', σ, Q, r, rs, e, k => by
    cases r with
    | nil => simp [Tgt.sets] at e
    | cons h r =>
      simp only [Tgt.sets] at e
      split at e
      · next δ1 e1 =>
        refine ⟨_, _, rfl, Tgt.run le t h rs e1 fun σ1 rs1 w1 => Tgt.runs le ts r rs1 e fun σ2 rs2 w2 => k σ2 rs2 fun vs hv => ?_⟩
        rw [w2 vs fun i hi => hv i (by simp [Tgt.slotsL, hi]), w1 vs fun i hi => hv i (by simp [Tgt.slotsL, hi])]
      · cases e
theorem Tgt.sets_len : ∀ (ts : List Tgt) {ds : List D} {δ δ' : DSt}, Tgt.sets ts ds δ = some δ' → ds.length = Tgt.len ts
  | [], ds, δ, δ', e => by
    cases ds with
    | nil => rfl
    | cons _ _ => simp [Tgt.sets] at e
  | t :: ts, ds, δ, δ', e => by
    cases ds with
    | nil => simp [Tgt.sets] at e
    | cons d ds =>
      simp only [Tgt.sets] at e
      split at e
      · rw [List.length_cons, Tgt.sets_len ts e]; rfl
      · cases e
end
end
section
variable {X : Cx} {e tg : Expr} {te : DTE} {pos : Pos}
/-- target = e -/
def dAsg (te : DTE) (g : Tgt) : DTS := fun D δ G => te δ G fun d G1 => match g.set d δ with
  | some δ' => D.nx δ' G1
  | none => False
theorem asg_split {K : PySem.W.Frag} {g : Tgt} {E : Ends} {σ : St} {H : Hp} (h : cS K (dAsg te g) E σ H) : tAsg (cE K te) (g.tg K) E σ H := by
  obtain ⟨δ, G, Z, D0, ok, rs, h, l⟩ := h
  refine ⟨δ, G, Z, _, ok, rs, h, fun d G1 v H1 h1 k1 ok1 r1 => ?_⟩
  have h1 : (match g.set d δ with | some δ' => D0.nx δ' G1 | none => False) := h1
  split at h1
  · next δ' e =>
    exact g.run U_le r1 (rs.mono k1.keep) e fun σ' rs' _ => l.nx _ _ _ _ h1 k1 ok1 rs'
  · exact h1.elim
theorem ds_asg {g : Tgt} (he : DE X e te) (hg : PG X tg (g.tg X.K)) (hs : swapsWithSole [tg] e pos.line X.env = pure false := by rfl) (hw : swappedStores [tg] e X.env = pure none := by rfl)
    (h1 : (assignEach [tg] X.env).map (·.2) = [assign tg X.env] := by rfl) : DS X (.Assign [tg] e pos) (dAsg te g) :=
  PS.mono (ps_asg he hg hs hw h1) fun E σ H h => asg_split h
/-- name = e -/
theorem ds_set {i : Nat} {x : Str} {pos' : Pos} (hN : X.N.Nodup) (hi : X.N[i]? = some x) (hx : Loc X.env.scope x) (he : DE X e te) (hs : swapsWith e (some (.Name x pos')) pos.line X.env = pure false := by rfl) (hf : X.fn x = true ∨ X.env.scope.names.lookup x = some .local := by first | exact .inl rfl | exact .inr rfl | assumption) :
    DS X (.Assign [.Name x pos'] e pos) (dAsg te (.nm i)) :=
  PS.mono (ps_set hN hi hx he hs hf) fun E σ H h => asg_split (g := .nm i) h
/-- a, b = x, y: both sides written, stored from the right -/
def dPar (i j : Nat) (ta : DTA) : DTS := fun D δ G => ta δ G fun ds G1 => match ds with
  | [v, w] => D.nx ((δ.set i (some v)).set j (some w)) G1
  | _ => False
theorem ds_par {i j : Nat} {x y : Str} {a b : Expr} {ta : DTA} {px py pt : Pos} {kt k2 pt2} (hc : X.calm = true) (hN : X.N.Nodup) (hi : X.N[i]? = some x) (hj : X.N[j]? = some y) (hij : i ≠ j)
    (hx : X.env.scope.names.lookup x = some .local) (hy : X.env.scope.names.lookup y = some .local) (ha : DA X [a, b] ta)
    (hw : swappedStores [.Tuple [.Name x px, .Name y py] kt pt] (.Tuple [a, b] k2 pt2) X.env = pure (some [x, y]))
    (hs : swapsWithSole [.Tuple [.Name x px, .Name y py] kt pt] (.Tuple [a, b] k2 pt2) pos.line X.env = pure false := by rfl) :
    DS X (.Assign [.Tuple [.Name x px, .Name y py] kt pt] (.Tuple [a, b] k2 pt2) pos) (dPar i j ta) :=
  PS.mono (ps_par hc hN hi hj hij hx hy ha hw hs) fun E σ H ⟨δ, G, Z, D0, ok, rs, h, l⟩ =>
    ⟨δ, G, Z, _, ok, rs, h, fun ds G1 vs H1 h1 k1 ok1 r1 => by
      rcases r1 with _ | ⟨ra, r1⟩
      · exact False.elim h1
      rcases r1 with _ | ⟨rb, r1⟩
      · exact False.elim h1
      rcases r1 with _ | ⟨rc, r1⟩
      · exact ⟨_, _, rfl, l.nx _ _ _ _ h1 k1 ok1 (((rs.mono k1.keep).set ra i).set rb j)⟩
      · exact False.elim h1⟩
theorem pg_nm {i : Nat} {x : Str} (h : PG X (.Name x pos) (gName i)) : PG X (.Name x pos) ((Tgt.nm i).tg X.K) := h
theorem pgs_n : PGs X [] (Tgt.tgs X.K []) := pgs_nil
theorem pgs_c {es : List Expr} {t : Tgt} {ts : List Tgt} (h1 : PG X e (t.tg X.K)) (h2 : PGs X es (Tgt.tgs X.K ts))
    (hs : (assignEach (e :: es) X.env).map (·.2) = assign e X.env :: (assignEach es X.env).map (·.2) := by rfl) : PGs X (e :: es) (Tgt.tgs X.K (t :: ts)) := pgs_cons h1 h2 hs
theorem pg_tp {es : List Expr} {k : Nat} {ts : List Tgt} (hc : X.calm = true) (h : PGs X es (Tgt.tgs X.K ts))
    (hn : (assignEach es X.env).length = Tgt.len ts := by rfl) (hst : (assignEach es X.env).findIdx? (·.1) = none := by rfl) : PG X (.Tuple es k pos) ((Tgt.tp ts).tg X.K) := pg_tup hc h hn hst
end

/-! ### while -/
/-- n turns at most -/
def dWhN (c : DTT) (tb : DTS) : Nat → DTS
  | 0 => fun _ _ _ => False
  | n + 1 => fun D δ G => c δ G fun b G1 => dIte b (tb { D with nx := dWhN c tb n D, ct := dWhN c tb n D, bk := D.nx } δ G1) (D.nx δ G1)
def dWhile (c : DTT) (tb : DTS) : DTS := fun D δ G => ∃ n, dWhN c tb n D δ G
section
variable {X : Cx} {pos : Pos}
theorem ds_while {c : Expr} {body : List Stmt} {tc : DTT} {tb : DTS} (hp : PassesOwn (model X.prog X.w) X.A X.env X.xe) (hc : DT X c tc) (hb : DSs X body tb) : DS X (.While c body [] pos) (dWhile tc tb) :=
  PS.mono (ps_while hp hc hb) fun E σ H ⟨δ, G, Z, D0, ok, rs, ⟨n, h⟩, l⟩ => by
    refine ⟨fun m σ' H' => ∃ δ' G', Kp H G Z H' G' ∧ Ok X.K H' G' Z ∧ RepSt X.K (U H' G' Z) δ' σ' ∧ dWhN tc tb m D0 δ' G', ⟨n, δ, G, .refl, ok, rs, h⟩, ?_⟩
    rintro m σ1 H1 ⟨δ1, G1, k1, ok1, rs1, h1⟩
    cases m with
    | zero => exact h1.elim
    | succ m =>
      refine ⟨δ1, G1, Z, _, ok1, rs1, h1, fun b G2 H2 q k2 ok2 => ?_⟩
      have k12 := k1.trans k2
      cases b with
      | false =>
        have q := dIte_f q
        refine iteF ?_
        exact l.nx _ _ _ _ q k12 ok2 (rs1.mono k2.keep)
      | true =>
        have q := dIte_t q
        refine iteT ?_
        refine ⟨fun σ' H' => ∃ δ' G', Kp H G Z H' G' ∧ Ok X.K H' G' Z ∧ RepSt X.K (U H' G' Z) δ' σ' ∧ dWhN tc tb m D0 δ' G', fun σ' H' hh => ⟨m, Nat.lt_succ_self m, hh⟩, δ1, G2, Z, _, ok2, rs1.mono k2.keep, q, ?_⟩
        exact ⟨fun δ' G' σ' H' q' k3 ok3 rs3 => ⟨δ', G', k12.trans k3, ok3, rs3, q'⟩, fun δ' G' σ' H' q' k3 ok3 rs3 => l.nx _ _ _ _ q' (k12.trans k3) ok3 rs3,
          fun δ' G' σ' H' q' k3 ok3 rs3 => ⟨δ', G', k12.trans k3, ok3, rs3, q'⟩, fun d G' v H' q' k3 ok3 rs3 => l.rt _ _ _ _ q' (k12.trans k3) ok3 rs3⟩
end

/-! ### what is walked -/
/-- the guard: a tracked list that is walked stays as it is -/
abbrev Gd := Option (Addr × List D)
def Gd.ok (gd : Gd) (G : GHp) : Prop := match gd with
  | none => True
  | some (a, ds) => G a = some (.lst ds)
/-- the walk J yields the items, in every state that came of (H, G) -/
structure ItOk (K : PySem.W.Frag) (J : It) (its : List D) (gd : Gd) (H : Hp) (G : GHp) (Z : Addr → Bool) : Prop where
  go : ∀ i d H' G', its[i]? = some d → Kp H G Z H' G' → Ok K H' G' Z → gd.ok G' → J.go i H' ∧ ∀ x H'', J.yld i H' x H'' → Kp H' G' Z H'' G' ∧ Ok K H'' G' Z ∧ Rep K (U H'' G' Z) d x
  stop : ∀ H' G', Kp H G Z H' G' → Ok K H' G' Z → gd.ok G' → J.stop its.length H'
abbrev DTI := DSt → GHp → (List D → Gd → GHp → Prop) → Prop
def cI (K : PySem.W.Frag) (ti : DTI) : TI := fun σ H R => ∃ (δ : DSt) (G : GHp) (Z : Addr → Bool) (Q0 : List D → Gd → GHp → Prop), Ok K H G Z ∧ RepSt K (U H G Z) δ σ ∧ ti δ G Q0 ∧
  ∀ its gd G' J H', Q0 its gd G' → Kp H G Z H' G' → Ok K H' G' Z → (∀ Z', (∀ a, Z a = true → Z' a = true) → (∀ a, H' a ≠ none → Z' a = Z a) → ItOk K J its gd H' G' Z') → R J H'
def DI (X : Cx) (tg iter : Expr) (ti : DTI) : Prop := PI X tg iter (cI X.K ti)
theorem PI.mono {X : Cx} {tg e : Expr} {t u : TI} (h : PI X tg e t) (k : ∀ σ H R, u σ H R → t σ H R) : PI X tg e u :=
  ⟨fun pins s σ H R I q => h.run pins s σ H R I (k σ H R q)⟩

/-! ### for -/
def dForL (gd : Gd) (g : Tgt) (tb : DTS) : List D → DTS
  | [] => fun D δ G => gd.ok G ∧ D.nx δ G
  | x :: xs => fun D δ G => gd.ok G ∧ match g.set x δ with
    | some δ' => tb { D with nx := dForL gd g tb xs D, ct := dForL gd g tb xs D, bk := D.nx } δ' G
    | none => False
def dFor (ti : DTI) (g : Tgt) (tb : DTS) : DTS := fun D δ G => ti δ G fun its gd G1 => dForL gd g tb its D δ G1
theorem List.drop_cons_of {α : Type} {l : List α} {i : Nat} {x : α} {r : List α} (h : l.drop i = x :: r) : l[i]? = some x ∧ l.drop (i + 1) = r := by
  constructor
  · have := congrArg (fun q => q[0]?) h
    simpa [List.getElem?_drop] using this
  · have := congrArg List.tail h
    simpa [List.tail_drop] using this
section
variable {X : Cx} {pos : Pos} {tg : Expr}
theorem ds_for {iter : Expr} {body : List Stmt} {ti : DTI} {g : Tgt} {tb : DTS} (hp : PassesOwn (model X.prog X.w) X.A X.env X.xe) (hc : X.calm = true) (hi : DI X tg iter ti) (hg : PG X tg (g.tg X.K)) (hb : DSs X body tb)
    (hs : ∀ x, foldedSetIterable iter X.env x = pure x := by intro _; rfl) : DS X (.For tg iter body [] pos) (dFor ti g tb) :=
  PS.mono (ps_for hp hc hi hg hb hs) fun E σ H ⟨δ, G, Z, D0, ok, rs, h, l⟩ => by
    refine ⟨δ, G, Z, _, ok, rs, h, fun its gd G1 J H1 q k1 ok1 it => ?_⟩
    have it := it Z (fun _ h => h) (fun _ _ => rfl)
    refine ⟨fun i m σ' H' => ∃ δ' G', m + i = its.length ∧ Kp H1 G1 Z H' G' ∧ Ok X.K H' G' Z ∧ RepSt X.K (U H' G' Z) δ' σ' ∧ dForL gd g tb (its.drop i) D0 δ' G', ⟨its.length, δ, G1, rfl, .refl, ok1, rs.mono k1.keep, q⟩, ?_⟩
    rintro i m σ2 H2 ⟨δ2, G2, hm, k2, ok2, rs2, h2⟩
    cases e : its.drop i with
    | nil =>
      left
      rw [e] at h2
      have hi : its.length ≤ i := by
        have := congrArg List.length e
        simp at this
        omega
      have hil : i = its.length := by omega
      subst hil
      exact ⟨it.stop _ _ k2 ok2 h2.1, l.nx _ _ _ _ h2.2 (k1.trans k2) ok2 rs2⟩
    | cons x r =>
      right
      rw [e] at h2
      obtain ⟨ex, er⟩ := List.drop_cons_of e
      obtain ⟨hgo, hy⟩ := it.go i x _ _ ex k2 ok2 h2.1
      refine ⟨hgo, fun σ' H' => ∃ m', m' < m ∧ ∃ δ' G', m' + (i + 1) = its.length ∧ Kp H1 G1 Z H' G' ∧ Ok X.K H' G' Z ∧ RepSt X.K (U H' G' Z) δ' σ' ∧ dForL gd g tb (its.drop (i + 1)) D0 δ' G', fun _ _ z => z, fun v H3 y => ?_⟩
      obtain ⟨k3, ok3, r3⟩ := hy v H3 y
      have h3 := h2.2
      have hlt : i < its.length := by
        have := congrArg List.length e
        simp at this
        omega
      split at h3
      · next δ' es =>
        refine g.run U_le r3 (rs2.mono k3.keep) es fun σ' rs' _ => ?_
        refine ⟨δ', G2, Z, _, ok3, rs', h3, ?_⟩
        have k23 := k2.trans k3
        exact ⟨fun δ' G' σ' H' q' k4 ok4 rs4 => ⟨m - 1, by omega, δ', G', by omega, k23.trans k4, ok4, rs4, by rw [er]; exact q'⟩,
          fun δ' G' σ' H' q' k4 ok4 rs4 => l.nx _ _ _ _ q' (k1.trans (k23.trans k4)) ok4 rs4,
          fun δ' G' σ' H' q' k4 ok4 rs4 => ⟨m - 1, by omega, δ', G', by omega, k23.trans k4, ok4, rs4, by rw [er]; exact q'⟩,
          fun d G' v H' q' k4 ok4 rs4 => l.rt _ _ _ _ q' (k1.trans (k23.trans k4)) ok4 rs4⟩
      · exact h3.elim
end
end DL
set_option Elab.async false
set_option linter.all false
set_option maxRecDepth 100000
set_option maxHeartbeats 1000000
/-! DL, part 3: comprehensions, what is walked, calls, defs. -/
namespace DL
open PySem PySem.Spec L2

/-! ### comprehensions -/
def dWipe (δ : DSt) : List Nat → DSt
  | [] => δ
  | v :: vs => (dWipe δ vs).set v none
theorem RepSt.wipe {K : PySem.W.Frag} {W : Hp} {δ : DSt} {σ : St} (h : RepSt K W δ σ) : ∀ vs : List Nat, RepSt K W (dWipe δ vs) (L2.wipe σ vs)
  | [] => h
  | v :: vs => (RepSt.wipe h vs).forget v none
theorem wipe_in {σ : St} : ∀ {vs : List Nat} {i : Nat}, i ∈ vs → (wipe σ vs).set i none = wipe σ vs
  | [], i, h => by simp at h
  | v :: vs, i, h => by
    rw [wipe]
    by_cases hv : i = v
    · subst hv; rw [List.set_set]
    · have hr : i ∈ vs := by simpa [hv] using h
      rw [List.set_comm _ _ (Ne.symm hv), wipe_in hr]
theorem wipe_sub {σ : St} {ws : List Nat} : ∀ {vs : List Nat}, (∀ i ∈ vs, i ∈ ws) → wipe (wipe σ ws) vs = wipe σ ws
  | [], _ => rfl
  | v :: vs, h => by
    rw [wipe, wipe_sub fun i hi => h i (List.mem_cons_of_mem _ hi), wipe_in (h v List.mem_cons_self)]
/-- the end of a comprehension: the list stays (false), or is to be changed (true) -/
def lcEnd (m : Bool) (acc : List D) (G : GHp) (Q : DK) : Prop := match m with
  | false => Q (.lst acc) G
  | true => ∀ p, G p = none → Q (.ref p) (gupd G p (.lst acc))
def dLcL (m : Bool) (gd : Gd) (g : Tgt) (tt : DTT) (te : DTE) (δw : DSt) : List D → List D → GHp → DK → Prop
  | [], acc, G, Q => gd.ok G ∧ lcEnd m acc G Q
  | x :: xs, acc, G, Q => gd.ok G ∧ match g.set x δw with
    | some δ' => tt δ' G fun b G1 => dIte b (te δ' G1 fun y G2 => acc.length < sizeLine ∧ dLcL m gd g tt te δw xs (acc ++ [y]) G2 Q) (dLcL m gd g tt te δw xs acc G1 Q)
    | none => False
def dLc (m : Bool) (ti : DTI) (g : Tgt) (tt : DTT) (te : DTE) (vs : List Nat) : DTE := fun δ G Q => ti δ G fun its gd G1 => dLcL m gd g tt te (dWipe δ vs) its [] G1 Q
def zAt (Z : Addr → Bool) (p : Addr) : Addr → Bool := fun a => if a = p then true else Z a
theorem zAt_same {Z : Addr → Bool} {p : Addr} : zAt Z p p = true := by unfold zAt; rw [if_pos rfl]
theorem zAt_ne {Z : Addr → Bool} {p a : Addr} (h : a ≠ p) : zAt Z p a = Z a := by unfold zAt; rw [if_neg h]
theorem lc_split {K : PySem.W.Frag} {m : Bool} {ti : DTI} {g : Tgt} {tt : DTT} {te : DTE} {vs : List Nat} {σ : St} {H : Hp} {Q : VK} (hs : ∀ i ∈ g.slots, i ∈ vs) (h : cE K (dLc m ti g tt te vs) σ H Q) :
    tLc (cI K ti) (g.tg K) (cT K tt) (cE K te) vs σ H Q := by
  obtain ⟨δ, G, Z, Q0, ok, rs, h, k⟩ := h
  refine ⟨δ, G, Z, _, ok, rs, h, fun its gd G1 J H1 q k1 ok1 it p hp => ?_⟩
  have it := it (zAt Z p) (fun a z => by by_cases e : a = p <;> simp [zAt, e, z]) (fun a z => zAt_ne (fun e => z (by rw [e]; exact hp)))
  have free := ok1.free hp
  have nz : ∀ a, zAt Z p a = false → a ≠ p ∧ Z a = false := fun a z => by
    by_cases e : a = p
    · subst e; rw [zAt_same] at z; cases z
    · rw [zAt_ne e] at z; exact ⟨e, z⟩
  have rsw : RepSt K (U H1 G1 (zAt Z p)) (dWipe δ vs) (wipe σ vs) := ((rs.mono k1.keep).mono (fun a o e => by
    obtain ⟨e1, e2, e3⟩ := U_some e
    exact U_of e1 (by rw [zAt_ne (ne_of_none e3 hp)]; exact e2) e3)).wipe vs
  refine ⟨fun i n H2 => ∃ acc dacc G2, n + i = its.length ∧ Kp H1 G1 (zAt Z p) H2 G2 ∧ Ok K H2 G2 (zAt Z p) ∧ H2 p = some (.lst acc) ∧ Reps K (U H2 G2 (zAt Z p)) dacc acc ∧ dLcL m gd g tt te (dWipe δ vs) (its.drop i) dacc G2 Q0,
    ⟨its.length, [], [], G1, rfl, ⟨fun a o e => ?_, fun a o z e => ?_⟩, ⟨fun a o e => ?_, fun a z => ?_⟩, upd_same, .nil, q⟩, ?_⟩
  · obtain ⟨e1, e2, e3⟩ := U_some e
    exact U_of e1 e2 (by rw [upd_ne (ne_of_none e3 hp)]; exact e3)
  · rw [upd_ne (ne_of_none e hp)]; exact e
  · obtain ⟨z, gk⟩ := ok1.ok a o e
    have ne : a ≠ p := fun q => by rw [q, free.1] at e; cases e
    refine ⟨by rw [zAt_ne ne]; exact z, gk.mono (fun b u eu => ?_) (upd_ne ne)⟩
    obtain ⟨e1, e2, e3⟩ := U_some eu
    have nb := ne_of_none e3 hp
    exact U_of e1 (by rw [zAt_ne nb]; exact e2) (by rw [upd_ne nb]; exact e3)
  · by_cases e : a = p
    · subst e; rw [upd_same]; simp
    · rw [zAt_ne e] at z; rw [upd_ne e]; exact ok1.hid a z
  rintro i n H2 ⟨acc, dacc, G2, hn, k2, ok2, hacc, racc, h2⟩
  cases e : its.drop i with
  | nil =>
    left
    rw [e] at h2
    have hi : its.length ≤ i := by
      have := congrArg List.length e
      simp at this
      omega
    have hil : i = its.length := by omega
    subst hil
    refine ⟨it.stop _ _ k2 ok2 h2.1, ?_⟩
    have g2p : G2 p = none := by
      cases eg : G2 p with
      | none => rfl
      | some o => have := (ok2.ok p o eg).1; rw [zAt_same] at this; cases this
    have up : ∀ a o, U H2 G2 (zAt Z p) a = some o → U H2 G2 Z a = some o := fun a o e => by
      obtain ⟨e1, e2, e3⟩ := U_some e
      exact U_of e1 (nz a e2).2 e3
    have kk : Kp H1 G1 Z H2 G2 := ⟨fun a o e => by
      obtain ⟨e1, e2, e3⟩ := U_some e
      exact up _ _ (k2.keep a o (U_of e1 (by rw [zAt_ne (ne_of_none e3 hp)]; exact e2) e3)), fun a o z e => k2.hid a o (by rw [zAt_ne (ne_of_none e hp)]; exact z) e⟩
    have okk : Ok K H2 G2 Z := ⟨fun a o e => by
      obtain ⟨z, gk⟩ := ok2.ok a o e
      exact ⟨(nz a z).2, gk.mono up rfl⟩, fun a z => ok2.hid a (by unfold zAt; split <;> simp [z])⟩
    have hup : U H2 G2 Z p = some (.lst acc) := U_of g2p free.2 hacc
    cases m with
    | false => exact k _ _ _ _ h2.2 (k1.trans kk) okk (.lst hup (racc.mono up))
    | true =>
      have h3 := h2.2 p g2p
      have nop : ∀ a o, U H2 G2 (zAt Z p) a = some o → U H2 (gupd G2 p (.lst dacc)) Z a = some o := fun a o e => by
        obtain ⟨e1, e2, e3⟩ := U_some e
        obtain ⟨n1, n2⟩ := nz a e2
        exact U_of (by rw [gupd_ne n1]; exact e1) n2 e3
      have k3 : Kp H1 G1 Z H2 (gupd G2 p (.lst dacc)) := ⟨fun a o e => by
        obtain ⟨e1, e2, e3⟩ := U_some e
        exact nop _ _ (k2.keep a o (U_of e1 (by rw [zAt_ne (ne_of_none e3 hp)]; exact e2) e3)), kk.hid⟩
      refine k _ _ _ _ h3 (k1.trans k3) ⟨fun a o e => ?_, okk.hid⟩ (.ref p)
      by_cases ea : a = p
      · subst ea
        rw [gupd_same] at e; cases e
        exact ⟨free.2, acc, hacc, racc.mono nop⟩
      · rw [gupd_ne ea] at e
        obtain ⟨z, gk⟩ := ok2.ok a o e
        exact ⟨(nz a z).2, gk.mono nop rfl⟩
  | cons x r =>
    right
    rw [e] at h2
    obtain ⟨ex, er⟩ := List.drop_cons_of e
    obtain ⟨hgo, hy⟩ := it.go i x _ _ ex k2 ok2 h2.1
    have hlt : i < its.length := by
      have := congrArg List.length e
      simp at this
      omega
    refine ⟨hgo, fun H' => ∃ n', n' < n ∧ ∃ acc dacc G2, n' + (i + 1) = its.length ∧ Kp H1 G1 (zAt Z p) H' G2 ∧ Ok K H' G2 (zAt Z p) ∧ H' p = some (.lst acc) ∧ Reps K (U H' G2 (zAt Z p)) dacc acc ∧ dLcL m gd g tt te (dWipe δ vs) (its.drop (i + 1)) dacc G2 Q0, fun _ z => z, fun v H3 y => ?_⟩
    obtain ⟨k3, ok3, r3⟩ := hy v H3 y
    have h3 := h2.2
    split at h3
    · next δ' es =>
      have k13 := k2.trans k3
      refine g.run U_le r3 (rsw.mono k13.keep) es fun σ' rs' hw => ⟨(hw vs hs).trans (wipe_sub fun _ z => z), ?_⟩
      refine ⟨δ', G2, zAt Z p, _, ok3, rs', h3, fun b G4 H4 q4 k4 ok4 => ?_⟩
      have k14 := k13.trans k4
      have hacc4 : H4 p = some (.lst acc) := k4.hid _ _ zAt_same (k3.hid _ _ zAt_same hacc)
      have racc4 := racc.mono (k3.trans k4).keep
      cases b with
      | false =>
        have q4 := dIte_f q4
        refine iteF ⟨n - 1, by omega, acc, dacc, G4, by omega, k14, ok4, hacc4, racc4, by rw [er]; exact q4⟩
      | true =>
        have q4 := dIte_t q4
        refine iteT ⟨δ', G4, zAt Z p, _, ok4, rs'.mono k4.keep, q4, fun yd G5 yv H5 q5 k5 ok5 r5 => ?_⟩
        have hacc5 : H5 p = some (.lst acc) := k5.hid _ _ zAt_same hacc4
        have racc5 := racc4.mono k5.keep
        have up : ∀ a o, U H5 G5 (zAt Z p) a = some o → U (upd H5 p (.lst (acc ++ [yv]))) G5 (zAt Z p) a = some o := fun a o e => by
          obtain ⟨e1, e2, e3⟩ := U_some e
          exact U_of e1 e2 (by rw [upd_ne (nz a e2).1]; exact e3)
        have k15 := k14.trans k5
        refine ⟨acc, hacc5, by rw [← racc.length]; exact q5.1, n - 1, by omega, acc ++ [yv], dacc ++ [yd], G5, by omega, ⟨fun a o e => up _ _ (k15.keep a o e), fun a o z e => ?_⟩, ⟨fun a o e => ?_, fun a z => ?_⟩, upd_same, (racc5.mono up).append (.cons (r5.mono up) .nil), by rw [er]; exact q5.2⟩
        · rw [upd_ne (ne_of_none e hp)]; exact k15.hid a o z e
        · obtain ⟨z, gk⟩ := ok5.ok a o e
          exact ⟨z, gk.mono up (upd_ne (nz a z).1)⟩
        · by_cases e : a = p
          · subst e; rw [upd_same]; simp
          · rw [upd_ne e]; exact ok5.hid a z
    · exact h3.elim
section
variable {X : Cx}
/-- a clause's tests -/
abbrev DTs (X : Cx) (ifs : List Expr) (t : DTT) : Prop := PTs X ifs (cT X.K t)
def dYes : DTT := fun _ G Q => Q true G
theorem PTs.mono {X : Cx} {e : List Expr} {t u : TT} (h : PTs X e t) (k : ∀ σ H Q, u σ H Q → t σ H Q) : PTs X e u :=
  ⟨fun pins s σ H Q I q => h.run pins s σ H Q I (k σ H Q q)⟩
theorem dts_nil : DTs X [] dYes := PTs.mono pts_nil fun σ H Q ⟨δ, G, Z, Q0, ok, rs, h, k⟩ => k _ _ _ h .refl ok
theorem dts_one {c : Expr} {t : DTT} (h : DT X c t) : DTs X [c] t := pts_one h
theorem de_lc (m : Bool) {elt tg iter : Expr} {ifs : List Expr} {scope : Scope} {own : List (Str × Nat)} {pos : Pos} {ti : DTI} {g : Tgt} {tt : DTT} {te : DTE} (hc : X.calm = true) (hN : X.N.Nodup) (hi : DI X tg iter ti) (ok : BlkOk X.N X.env.scope scope own)
    (hg : ∀ (s : Shared) (H : Hp) (C : Addr) (cl : List (Str × Addr)) (fp : List Addr), PG (X.blk s H scope (compEnvC scope cl C X.env) fp) tg (g.tg X.K)) (ht : ∀ (s : Shared) (H : Hp) (C : Addr) (cl : List (Str × Addr)) (fp : List Addr), DTs (X.blk s H scope (compEnvC scope cl C X.env) fp) ifs tt)
    (he : ∀ (s : Shared) (H : Hp) (C : Addr) (cl : List (Str × Addr)) (fp : List Addr), DE (X.blk s H scope (compEnvC scope cl C X.env) fp) elt te) (hsl : ∀ i ∈ g.slots, i ∈ own.map (·.2)) (hs : ∀ x, foldedSetIterable iter X.env x = pure x := by intro _; rfl) :
    DE X (.ListComp elt [⟨tg, iter, ifs, 0⟩] scope pos) (dLc m ti g tt te (own.map (·.2))) :=
  PE.mono (pe_lc (tt := cT X.K tt) (te := cE X.K te) hc hN hi ok hg ht he hs) fun σ H Q h => lc_split hsl h
theorem ds_setLc (m : Bool) {i : Nat} {y : Str} {py : Pos} {elt tg iter : Expr} {ifs : List Expr} {scope : Scope} {own : List (Str × Nat)} {pos spos : Pos} {ti : DTI} {g : Tgt} {tt : DTT} {te : DTE} (hc : X.calm = true) (hN : X.N.Nodup) (hy : X.N[i]? = some y) (hyl : X.env.scope.names.lookup y = some .local)
    (hsw : swapsWith (.ListComp elt [⟨tg, iter, ifs, 0⟩] scope pos) (some (.Name y py)) spos.line X.env = pure true) (hi : DI X tg iter ti) (ok : BlkOk X.N X.env.scope scope own)
    (hg : ∀ (s : Shared) (H : Hp) (C : Addr) (cl : List (Str × Addr)) (fp : List Addr), PG (X.blk s H scope (compEnvC scope cl C X.env) fp) tg (g.tg X.K)) (ht : ∀ (s : Shared) (H : Hp) (C : Addr) (cl : List (Str × Addr)) (fp : List Addr), DTs (X.blk s H scope (compEnvC scope cl C X.env) fp) ifs tt)
    (he : ∀ (s : Shared) (H : Hp) (C : Addr) (cl : List (Str × Addr)) (fp : List Addr), DE (X.blk s H scope (compEnvC scope cl C X.env) fp) elt te) (hsl : ∀ i ∈ g.slots, i ∈ own.map (·.2)) (hs : ∀ x, foldedSetIterable iter X.env x = pure x := by intro _; rfl) :
    DS X (.Assign [.Name y py] (.ListComp elt [⟨tg, iter, ifs, 0⟩] scope pos) spos) (dAsg (dLc m ti g tt te (own.map (·.2))) (.nm i)) :=
  PS.mono (ps_setLc (tt := cT X.K tt) (te := cE X.K te) hc hN hy hyl hsw hi ok hg ht he hs) fun E σ H ⟨δ, G, Z, D0, ok, rs, h, l⟩ =>
    lc_split hsl ⟨δ, G, Z, _, ok, rs, h, fun d G1 v H1 h1 k1 ok1 r1 => l.nx _ _ _ _ h1 k1 ok1 ((rs.mono k1.keep).set r1 i)⟩
end

/-! ### what is walked -/
/-- a list, as it stands -/
def lsOf (G : GHp) : D → Option (List D)
  | .lst ds => some ds
  | .ref a => match G a with
    | some (.lst ds) => some ds
    | _ => none
  | _ => none
theorem lsOf_of {K : PySem.W.Frag} {H : Hp} {G : GHp} {Z : Addr → Bool} {x : D} {v : V} {ds : List D} (ok : Ok K H G Z) (r : Rep K (U H G Z) x v) (h : lsOf G x = some ds) : ∃ a xs, v = .ref a ∧ H a = some (.lst xs) ∧ Reps K (U H G Z) ds xs := by
  cases r with
  | lst q rs =>
    simp only [lsOf, Option.some.injEq] at h
    subst h
    exact ⟨_, _, rfl, U_le _ _ q, rs⟩
  | ref a =>
    unfold lsOf at h
    simp only at h
    split at h
    · next ds' e =>
      cases h
      obtain ⟨_, xs, h1, h2⟩ := ok.ok a _ e
      exact ⟨a, xs, rfl, h1, h2⟩
    · cases h
  | _ => simp [lsOf] at h
section
variable {K : PySem.W.Frag} {H : Hp} {G : GHp} {Z Z' : Addr → Bool}
theorem U_ext (h1 : ∀ a, H a ≠ none → Z' a = Z a) : ∀ a o, U H G Z a = some o → U H G Z' a = some o := fun a o e => by
  obtain ⟨e1, e2, e3⟩ := U_some e
  exact U_of e1 (by rw [h1 a (by rw [e3]; simp)]; exact e2) e3
theorem it_list {a : Addr} {xs : List V} {ds : List D} (h : U H G Z a = some (.lst xs)) (r : Reps K (U H G Z) ds xs) : ItOk K (Itl K a) ds none H G Z := by
  refine ⟨fun i d H' G' e k ok _ => ?_, fun H' G' k ok _ => ?_⟩
  · have h' := U_le _ _ (k.keep _ _ h)
    obtain ⟨v, e1, rv⟩ := r.get e
    refine ⟨⟨xs, v, SqL.of h', e1⟩, fun x H'' hy => ?_⟩
    obtain ⟨rfl, hx⟩ := hy
    have := hx xs (SqL.of h')
    rw [e1] at this; cases this
    exact ⟨.refl, ok, rv.mono k.keep⟩
  · exact ⟨xs, SqL.of (U_le _ _ (k.keep _ _ h)), Nat.le_of_eq r.length.symm⟩
theorem it_listG {a : Addr} {ds : List D} : ItOk K (Itl K a) ds (some (a, ds)) H G Z := by
  refine ⟨fun i d H' G' e k ok gd => ?_, fun H' G' k ok gd => ?_⟩
  · obtain ⟨_, xs, h1, h2⟩ := ok.ok a _ gd
    obtain ⟨v, e1, rv⟩ := h2.get e
    refine ⟨⟨xs, v, SqL.of h1, e1⟩, fun x H'' hy => ?_⟩
    obtain ⟨rfl, hx⟩ := hy
    have := hx xs (SqL.of h1)
    rw [e1] at this; cases this
    exact ⟨.refl, ok, rv⟩
  · obtain ⟨_, xs, h1, h2⟩ := ok.ok a _ gd
    exact ⟨xs, SqL.of h1, Nat.le_of_eq h2.length.symm⟩
theorem it_tup {a : Addr} {xs : List V} {ds : List D} (h : SqT K (U H G Z) a xs) (r : Reps K (U H G Z) ds xs) : ItOk K (Itt K a) ds none H G Z := by
  refine ⟨fun i d H' G' e k ok _ => ?_, fun H' G' k ok _ => ?_⟩
  · have h' : SqT K H' a xs := SqT.mono (fun a o e => U_le _ _ (k.keep a o e)) h
    obtain ⟨v, e1, rv⟩ := r.get e
    refine ⟨⟨xs, v, h', e1⟩, fun x H'' hy => ?_⟩
    obtain ⟨rfl, hx⟩ := hy
    have := hx xs h'
    rw [e1] at this; cases this
    exact ⟨.refl, ok, rv.mono k.keep⟩
  · exact ⟨xs, SqT.mono (fun a o e => U_le _ _ (k.keep a o e)) h, Nat.le_of_eq r.length.symm⟩
def rngD (lo : Int) (n : Nat) : List D := (List.range n).map fun (i : Nat) => D.int (lo + i)
theorem it_range {lo : Int} {n : Nat} : ItOk K (Itr lo n) (rngD lo n) none H G Z := by
  refine ⟨fun i d H' G' e k ok _ => ?_, fun H' G' k ok _ => ?_⟩
  · have hi : i < n := by
      have := (List.getElem?_eq_some_iff.mp e).1
      simpa [rngD] using this
    have hd : d = .int (lo + i) := by
      simp [rngD, hi] at e
      exact e.symm
    subst hd
    refine ⟨hi, fun x H'' hy => ?_⟩
    obtain ⟨rfl, rfl⟩ := hy
    exact ⟨.refl, ok, .int _⟩
  · show n ≤ (rngD lo n).length
    simp [rngD]
/-- the signs of a text -/
def strD (x : Str) : List D := x.cps.toList.map fun c => D.str ⟨#[c]⟩
theorem it_str {z : Str} : ItOk K (Its z) (strD z) none H G Z := by
  refine ⟨fun i d H' G' e k ok _ => ?_, fun H' G' k ok _ => ?_⟩
  · have hi : i < z.cps.size := by
      have := (List.getElem?_eq_some_iff.mp e).1
      simpa [strD] using this
    refine ⟨hi, fun x H'' hy => ?_⟩
    obtain ⟨rfl, c, hc, rfl⟩ := hy
    have : d = .str ⟨#[c]⟩ := by
      simp [strD, hc] at e
      exact e.symm
    subst this
    exact ⟨.refl, ok, .str _⟩
  · show z.cps.size ≤ (strD z).length
    simp [strD]
end
section
variable {X : Cx} {tg e : Expr} {te : DTE} {ta : DTA} {p pos : Pos}
/-- a list, a tuple or a text -/
def dSeqI (te : DTE) : DTI := fun δ G R => te δ G fun x G1 => match x with
  | .lst ds => R ds none G1
  | .tup ds => R ds none G1
  | .str z => R (strD z) none G1
  | .ref a => match G1 a with
    | some (.lst ds) => R ds (some (a, ds)) G1
    | _ => False
  | _ => False
theorem PI.or {t u : TI} (h : PI X tg e t) (h' : PI X tg e u) : PI X tg e (fun σ H R => t σ H R ∨ u σ H R) :=
  ⟨fun pins s σ H R I q => q.elim (h.run pins s σ H R I) (h'.run pins s σ H R I)⟩
/-- an iterator over a value, by its kind -/
theorem iter_lst {pins : List (Addr × Obj)} {s : Shared} {σ : St} {H : Hp} {R : It → Hp → Prop} {a : Addr} {xs : List V} (I : Inv X pins σ H s) (hq : SqL X.K H a xs) (q : R (Itl X.K a) H) : wpAny (model X.prog X.w) X.A (pyIter (.ref a)) (PIE X pins σ tg R) X.xe s := by
  obtain ⟨its, rv, p, hz⟩ := I.list hq
  refine wpAny_pyIter_list p.isList ?_
  exact pi_one (tk := s.toks) I _ (turn_list a _) ⟨_, Heap.get?_push_size _ rfl, rfl, rfl⟩ q
theorem iter_tup {pins : List (Addr × Obj)} {s : Shared} {σ : St} {H : Hp} {R : It → Hp → Prop} {a : Addr} {xs : List V} (I : Inv X pins σ H s) (hq : SqT X.K H a xs) (q : R (Itt X.K a) H) : wpAny (model X.prog X.w) X.A (pyIter (.ref a)) (PIE X pins σ tg R) X.xe s := by
  obtain ⟨its, rv, p, hz⟩ := I.tuple hq
  refine wpAny_pyIter_tuple (show s.heap.IsTuple a its.toArray from p) ?_
  exact pi_one (tk := s.toks) I _ (turn_tuple a _) ⟨_, Heap.get?_push_size _ rfl, rfl, rfl⟩ q
theorem iter_text {pins : List (Addr × Obj)} {s : Shared} {σ : St} {H : Hp} {R : It → Hp → Prop} {x : Str} {t : Tok} (I : Inv X pins σ H s) (q : R (Its x) H) : wpAny (model X.prog X.w) X.A (pyIter (.str x t)) (PIE X pins σ tg R) X.xe s := by
  cases ha : x.cps.all (· < 128)
  · exact wpAny_pyIter_wide ha (pi_one (tk := s.toks) I _ (turn_str _ x t "str_iterator" (.inr rfl)) ⟨_, Heap.get?_push_size _ rfl, rfl, rfl⟩ q)
  · exact wpAny_pyIter_ascii ha (pi_one (tk := s.toks) I _ (turn_str _ x t "str_ascii_iterator" (.inl rfl)) ⟨_, Heap.get?_push_size _ rfl, rfl, rfl⟩ q)
/-- the value's kind picks the rule -/
theorem di_seq (he : DE X e te) : DI X tg e (dSeqI te) := by
  refine ⟨?_⟩
  rintro pins s σ H R I ⟨δ, G, Z, Q0, ok, rs, h, k⟩
  let P : VK := fun v H' => ∃ d G', (match d with
      | .lst ds => Q0 ds none G'
      | .tup ds => Q0 ds none G'
      | .str z => Q0 (strD z) none G'
      | .ref a => match G' a with
        | some (.lst ds) => Q0 ds (some (a, ds)) G'
        | _ => False
      | _ => False) ∧ Kp H G Z H' G' ∧ Ok X.K H' G' Z ∧ Rep X.K (U H' G' Z) d v
  refine thn (he.run pins s σ H P I ⟨δ, G, Z, _, ok, rs, h, fun d G' v H' q k1 ok1 r1 => ⟨d, G', q, k1, ok1, r1⟩⟩) fun u s1 hh => ?_
  obtain ⟨v, H1, I1, rv, d, G1, q, k1, ok1, r1⟩ := hh
  cases r1 with
  | lst hq rr =>
    obtain rfl : u = Value.ref _ := rv
    exact iter_lst I1 (SqL.of (U_le _ _ hq)) (k _ _ _ _ _ q k1 ok1 fun Z' z1 z2 => it_list (U_ext z2 _ _ hq) (rr.mono (U_ext z2)))
  | tup hq rr =>
    obtain rfl : u = Value.ref _ := rv
    exact iter_tup I1 (SqT.mono U_le hq) (k _ _ _ _ _ q k1 ok1 fun Z' z1 z2 => it_tup (SqT.mono (U_ext z2) hq) (rr.mono (U_ext z2)))
  | str z =>
    obtain ⟨t, rfl⟩ := rv
    exact iter_text I1 (k _ _ _ _ _ q k1 ok1 fun Z' z1 z2 => it_str)
  | ref a =>
    obtain rfl : u = Value.ref _ := rv
    simp only at q
    split at q
    · next ds e =>
      obtain ⟨_, xs, h1, h2⟩ := ok1.ok a _ e
      exact iter_lst I1 (SqL.of h1) (k _ _ _ _ _ q k1 ok1 fun Z' z1 z2 => it_listG)
    · exact q.elim
  | _ => exact False.elim q
/-- range(n), range(a, b) -/
def RgB (i j : Int) : Prop := -(2 ^ 62) ≤ i ∧ i < 2 ^ 62 ∧ -(2 ^ 62) ≤ j ∧ j < 2 ^ 62
def dRng1 (ta : DTE) : DTI := fun δ G R => ta δ G fun x G1 => match x with
  | .int j => RgB 0 j ∧ R (rngD 0 j.toNat) none G1
  | _ => False
def dRng2 (ta tb : DTE) : DTI := fun δ G R => ta δ G fun x G1 => tb δ G1 fun y G2 => match x, y with
  | .int i, .int j => RgB i j ∧ R (rngD i (j - i).toNat) none G2
  | _, _ => False
theorem di_range1 {a : Expr} {ta : DTE} (hg : Gl X "range") (hm : X.mg "range" = none) (ha : DE X a ta) (hs : starEach [a] X.env = [(false, eval a X.env)] := by rfl) : DI X tg (.Call (.Name "range" p) [a] [] pos) (dRng1 ta) :=
  PI.mono (pi_range1 hg hm (pa_cons ha pa_nil hs) hs) fun σ H R ⟨δ, G, Z, Q0, ok, rs, h, k⟩ =>
    ⟨δ, G, Z, _, ok, rs, h, fun x G1 v H1 h1 k1 ok1 r1 => by
      cases r1 with
      | int j => exact ⟨j, rfl, h1.1.2.2.1, h1.1.2.2.2, k _ _ _ _ _ h1.2 k1 ok1 fun Z' _ _ => it_range⟩
      | _ => exact False.elim h1⟩
theorem di_range2 {a b : Expr} {ta tb : DTE} (hg : Gl X "range") (hm : X.mg "range" = none) (ha : DE X a ta) (hb : DE X b tb) (hs : starEach [a, b] X.env = [(false, eval a X.env), (false, eval b X.env)] := by rfl) (hs2 : starEach [b] X.env = [(false, eval b X.env)] := by rfl) :
    DI X tg (.Call (.Name "range" p) [a, b] [] pos) (dRng2 ta tb) :=
  PI.mono (pi_range2 hg hm (pa_cons ha (pa_cons hb pa_nil hs2) (hs.trans (by rw [hs2]))) hs hs2) fun σ H R ⟨δ, G, Z, Q0, ok, rs, h, k⟩ =>
    ⟨δ, G, Z, _, ok, rs, h, fun x G1 v H1 h1 k1 ok1 r1 => ⟨δ, G1, Z, _, ok1, rs.mono k1.keep, h1, fun y G2 u H2 h2 k2 ok2 r2 => by
      cases r1 with
      | int i =>
        cases r2 with
        | int j => exact ⟨i, j, rfl, h2.1, k _ _ _ _ _ h2.2 (k1.trans k2) ok2 fun Z' _ _ => it_range⟩
        | _ => exact False.elim h2
      | _ => cases r2 <;> exact False.elim h2⟩⟩
/-- for (i, x) in enumerate(list) -/
def enumFrom (i : Nat) : List D → List D
  | [] => []
  | d :: r => D.tup [.int (i : Nat), d] :: enumFrom (i + 1) r
theorem enumFrom_get : ∀ {ds : List D} {n i : Nat}, (enumFrom n ds)[i]? = (ds[i]?).map fun d => D.tup [.int ((n + i : Nat) : Int), d]
  | [], n, i => by simp [enumFrom]
  | d :: r, n, 0 => by simp [enumFrom]
  | d :: r, n, i + 1 => by
    simp only [enumFrom, List.getElem?_cons_succ]
    rw [enumFrom_get]
    have e : n + 1 + i = n + (i + 1) := by omega
    rw [e]
theorem enumFrom_length : ∀ {ds : List D} {n : Nat}, (enumFrom n ds).length = ds.length
  | [], n => rfl
  | d :: r, n => by simp [enumFrom, enumFrom_length]
theorem it_enum {K : PySem.W.Frag} {H : Hp} {G : GHp} {Z : Addr → Bool} {a : Addr} {ds : List D} {gd : Gd} (h : ∀ H' G', Kp H G Z H' G' → Ok K H' G' Z → gd.ok G' → ∃ xs, H' a = some (.lst xs) ∧ Reps K (U H' G' Z) ds xs) : ItOk K (Ite K a) (enumFrom 0 ds) gd H G Z := by
  refine ⟨fun i d H' G' e k ok gd => ?_, fun H' G' k ok gd => ?_⟩
  · obtain ⟨xs, h1, h2⟩ := h H' G' k ok gd
    rw [enumFrom_get] at e
    cases e0 : ds[i]? with
    | none => rw [e0] at e; simp at e
    | some y =>
      rw [e0] at e
      simp only [Option.map_some, Option.some.injEq, Nat.zero_add] at e
      subst e
      obtain ⟨v, e1, rv⟩ := h2.get e0
      refine ⟨⟨xs, v, SqL.of h1, e1⟩, fun x H'' hy => ?_⟩
      obtain ⟨T, y', rfl, hT, rfl, hx⟩ := hy
      have := hx xs (SqL.of h1)
      rw [e1] at this; cases this
      have kl : Kp H' G' Z (upd H' T (.tup [.int (i : Nat), v])) G' := Kp.laid hT
      exact ⟨kl, ok.laid hT, .tup (SqT.of (U_laid ok hT)) (.cons (.int _) (.cons (rv.mono kl.keep) .nil))⟩
  · obtain ⟨xs, h1, h2⟩ := h H' G' k ok gd
    exact ⟨xs, SqL.of h1, by rw [enumFrom_length]; exact Nat.le_of_eq h2.length.symm⟩
/-- the tracked list that a guard must watch, if it is one -/
def gdOf (G : GHp) : D → Gd
  | .ref a => match G a with
    | some (.lst ds) => some (a, ds)
    | _ => none
  | _ => none
theorem ls_stay {K : PySem.W.Frag} {H : Hp} {G : GHp} {Z Z' : Addr → Bool} {x : D} {v : V} {ds : List D} (z2 : ∀ a, H a ≠ none → Z' a = Z a) (ok : Ok K H G Z) (r : Rep K (U H G Z) x v) (h : lsOf G x = some ds) :
    ∃ a xs, v = .ref a ∧ H a = some (.lst xs) ∧ ∀ H' G', Kp H G Z' H' G' → Ok K H' G' Z' → (gdOf G x).ok G' → ∃ xs, H' a = some (.lst xs) ∧ Reps K (U H' G' Z') ds xs := by
  cases r with
  | lst q rs =>
    simp only [lsOf, Option.some.injEq] at h
    subst h
    refine ⟨_, _, rfl, U_le _ _ q, fun H' G' k ok' _ => ⟨_, U_le _ _ (k.keep _ _ (U_ext z2 _ _ q)), rs.mono fun b o e => k.keep _ _ (U_ext z2 _ _ e)⟩⟩
  | ref a =>
    unfold lsOf at h
    simp only at h
    split at h
    · next ds' e =>
      cases h
      obtain ⟨_, xs, h1, h2⟩ := ok.ok a _ e
      refine ⟨a, xs, rfl, h1, fun H' G' k ok' gd => ?_⟩
      have gd : G' a = some (.lst ds) := by
        unfold gdOf Gd.ok at gd
        simp only [e] at gd
        exact gd
      obtain ⟨_, xs', h1', h2'⟩ := ok'.ok a _ gd
      exact ⟨xs', h1', h2'⟩
    · cases h
  | _ => simp [lsOf] at h
def dEnum (te : DTE) : DTI := fun δ G R => te δ G fun x G1 => match lsOf G1 x with
  | some ds => R (enumFrom 0 ds) (gdOf G1 x) G1
  | none => False
theorem di_enum {tpos : Pos} {elts : List Expr} {kk : Nat} (hg : Gl X "enumerate") (hm : X.mg "enumerate" = none) (he : DE X e te) (hs : starEach [e] X.env = [(false, eval e X.env)] := by rfl) :
    DI X (.Tuple elts kk tpos) (.Call (.Name "enumerate" p) [e] [] pos) (dEnum te) :=
  PI.mono (pi_enum hg hm (pa_cons he pa_nil hs) hs) fun σ H R ⟨δ, G, Z, Q0, ok, rs, h, k⟩ =>
    ⟨δ, G, Z, _, ok, rs, h, fun x G1 v H1 h1 k1 ok1 r1 => by
      have h1 : (match lsOf G1 x with | some ds => Q0 (enumFrom 0 ds) (gdOf G1 x) G1 | none => False) := h1
      split at h1
      · next ds e =>
        obtain ⟨a, xs, rfl, ha, _⟩ := ls_stay (fun _ _ => rfl) ok1 r1 e
        refine ⟨a, xs, rfl, SqL.of ha, k _ _ _ _ _ h1 k1 ok1 fun Z' z1 z2 => ?_⟩
        obtain ⟨a', xs', e', _, st⟩ := ls_stay z2 ok1 r1 e
        cases e'
        exact it_enum st
      · exact h1.elim⟩
/-- for (x, y) in zip(list, list) -/
def zipD : List D → List D → List D
  | a :: r, b :: s => D.tup [a, b] :: zipD r s
  | _, _ => []
theorem zipD_get : ∀ {as bs : List D} {i : Nat} {d : D}, (zipD as bs)[i]? = some d → ∃ x y, as[i]? = some x ∧ bs[i]? = some y ∧ d = .tup [x, y]
  | [], _, i, d, e => by simp [zipD] at e
  | _ :: _, [], i, d, e => by simp [zipD] at e
  | a :: r, b :: s, 0, d, e => by
    simp [zipD] at e
    exact ⟨a, b, rfl, rfl, e.symm⟩
  | a :: r, b :: s, i + 1, d, e => by
    simp only [zipD, List.getElem?_cons_succ] at e
    exact zipD_get (as := r) (bs := s) (i := i) (d := d) e
theorem zipD_length : ∀ {as bs : List D}, (zipD as bs).length = min as.length bs.length
  | [], _ => by simp [zipD]
  | _ :: _, [] => by simp [zipD]
  | a :: r, b :: s => by
    simp only [zipD, List.length_cons, zipD_length]
    omega
def dZip (ta tb : DTE) : DTI := fun δ G R => ta δ G fun x G1 => tb δ G1 fun y G2 => match lsOf G2 x, lsOf G2 y, gdOf G2 x, gdOf G2 y with
  | some as, some bs, none, none => R (zipD as bs) none G2
  | _, _, _, _ => False
theorem di_zip {e2 : Expr} {tb : DTE} {tpos : Pos} {elts : List Expr} {kk : Nat} (hg : Gl X "zip") (hm : X.mg "zip" = none) (he : DE X e te) (he2 : DE X e2 tb)
    (hs : starEach [e, e2] X.env = (false, eval e X.env) :: starEach [e2] X.env := by rfl) (hs2 : starEach [e2] X.env = (false, eval e2 X.env) :: starEach [] X.env := by rfl) (hpl : (backTo pos (starEach [e2] X.env)).any (·.1) = false := by rfl) :
    DI X (.Tuple elts kk tpos) (.Call (.Name "zip" p) [e, e2] [] pos) (dZip te tb) :=
  PI.mono (pi_zip hg hm (pa_cons he (pa_cons he2 pa_nil hs2) hs) hs hpl) fun σ H R ⟨δ, G, Z, Q0, ok, rs, h, k⟩ =>
    ⟨δ, G, Z, _, ok, rs, h, fun x G1 v H1 h1 k1 ok1 r1 => ⟨δ, G1, Z, _, ok1, rs.mono k1.keep, h1, fun y G2 u H2 h2 k2 ok2 r2 => by
      have r1 := r1.mono k2.keep
      have h2 : (match lsOf G2 x, lsOf G2 y, gdOf G2 x, gdOf G2 y with
        | some as, some bs, none, none => Q0 (zipD as bs) none G2
        | _, _, _, _ => False) := h2
      split at h2
      · next as bs e1 e2 e3 e4 =>
        obtain ⟨a, xs, rfl, ha, _⟩ := ls_stay (fun _ _ => rfl) ok2 r1 e1
        obtain ⟨b, ys, rfl, hb, _⟩ := ls_stay (fun _ _ => rfl) ok2 r2 e2
        refine ⟨a, b, xs, ys, rfl, SqL.of ha, SqL.of hb, k _ _ _ _ _ h2 (k1.trans k2) ok2 fun Z' z1 z2 => ?_⟩
        obtain ⟨a', xs', ea, _, st⟩ := ls_stay z2 ok2 r1 e1
        cases ea
        obtain ⟨b', ys', eb, _, su⟩ := ls_stay z2 ok2 r2 e2
        cases eb
        rw [e3] at st
        rw [e4] at su
        refine ⟨fun i d H' G' e k ok gd => ?_, fun H' G' k ok gd => ?_⟩
        · obtain ⟨xs, hx1, hx2⟩ := st H' G' k ok trivial
          obtain ⟨ys, hy1, hy2⟩ := su H' G' k ok trivial
          obtain ⟨dx, dy, ex, ey, rfl⟩ := zipD_get e
          obtain ⟨v, e1, rv⟩ := hx2.get ex
          obtain ⟨w, e2, rw'⟩ := hy2.get ey
          refine ⟨⟨xs, ys, v, w, SqL.of hx1, SqL.of hy1, e1, e2⟩, fun x H'' hy => ?_⟩
          obtain ⟨T, x', y', rfl, hT, rfl, hx, hy⟩ := hy
          have q1 := hx xs (SqL.of hx1)
          rw [e1] at q1; cases q1
          have q2 := hy ys (SqL.of hy1)
          rw [e2] at q2; cases q2
          have kl : Kp H' G' Z' (upd H' T (.tup [v, w])) G' := Kp.laid hT
          exact ⟨kl, ok.laid hT, .tup (SqT.of (U_laid ok hT)) (.cons (rv.mono kl.keep) (.cons (rw'.mono kl.keep) .nil))⟩
        · obtain ⟨xs, hx1, hx2⟩ := st H' G' k ok trivial
          obtain ⟨ys, hy1, hy2⟩ := su H' G' k ok trivial
          refine ⟨xs, ys, SqL.of hx1, SqL.of hy1, ?_⟩
          rw [zipD_length, hx2.length, hy2.length]
          omega
      · exact h2.elim⟩⟩
end

/-! ### calls -/
/-- an exception: its class, its own fields (where it has any) -/
abbrev DXK := Value → Option (List (Str × D)) → GHp → Prop
abbrev DX0 : DXK := fun _ _ _ => False
/-- a def's promise -/
abbrev DSp := List D → GHp → DK → DXK → Prop
/-- how exceptions answer one another -/
structure XLk (K : PySem.W.Frag) (Z : Addr → Bool) (E0 : DXK) (E : XK) (H : Hp) (G : GHp) : Prop where
  bare : ∀ c G' H', E0 c none G' → Kp H G Z H' G' → Ok K H' G' Z → E c none H'
  own : ∀ c fs G' H' dx xs, E0 c (some fs) G' → Kp H G Z H' G' → Ok K H' G' Z → U H' G' Z dx = some (.xd xs) → xs.map (·.1) = fs.map (·.1) → Reps K (U H' G' Z) (fs.map (·.2)) (xs.map (·.2)) → E c (some dx) H'
theorem XLk.after {K : PySem.W.Frag} {Z : Addr → Bool} {E0 : DXK} {E : XK} {H H1 : Hp} {G G1 : GHp} (x : XLk K Z E0 E H G) (k : Kp H G Z H1 G1) : XLk K Z E0 E H1 G1 :=
  ⟨fun c G' H' h q => x.bare c G' H' h (k.trans q), fun c fs G' H' dx xs h q => x.own c fs G' H' dx xs h (k.trans q)⟩
theorem XLk.none {K : PySem.W.Frag} {Z : Addr → Bool} {E : XK} {H : Hp} {G : GHp} : XLk K Z DX0 E H G := ⟨fun _ _ _ h => h.elim, fun _ _ _ _ _ _ h => h.elim⟩
def cSp (K : PySem.W.Frag) (sp : DSp) : Sp := fun vs H Q E => ∃ (ds : List D) (G : GHp) (Z : Addr → Bool) (Q0 : DK) (E0 : DXK), Ok K H G Z ∧ Reps K (U H G Z) ds vs ∧ sp ds G Q0 E0 ∧
  (∀ d G' v H', Q0 d G' → Kp H G Z H' G' → Ok K H' G' Z → Rep K (U H' G' Z) d v → Q v H') ∧ XLk K Z E0 E H G
def dCall (sp : DSp) (dd : List D) (t : DTA) : DTE := fun δ G Q => t δ G fun ds G1 => sp (ds ++ dd) G1 Q DX0
section
variable {X : Cx} {CX : CXT} {k : Nat} {f C : Addr} {fd : FuncData} {ps : List Str} {sp : DSp} {dvs : List V} {ds : List Value} {dd : List D} {E : XK} {x m : Str} {p pos apos : Pos} {e o : Expr} {es : List Expr} {ta : DTE} {t : DTA}
theorem de_call (F : FnOk X.prog X.w X.K X.mg X.base CX k f fd ps (cSp X.K sp)) (hr : Room k X.A) (hg : Gl X x) (hm : X.mg x = some (.ref f)) (hk : PySem.W.keepIn X.K (.ref f) = true) (hb : Binds X.K fd ps ds) (hd : Vals dvs ds) (hdd : ∀ W, Reps X.K W dd dvs) (hx : Passes CX X E)
    (ha : DA X (e :: es) t) (hdb : (x == ("__debug__" : Str)) = false := by decide) (he : starEach (e :: es) X.env = (false, eval e X.env) :: starEach es X.env := by rfl) (hpl : (backTo pos (starEach es X.env)).any (·.1) = false := by rfl) :
    DE X (.Call (.Name x p) (e :: es) [] pos) (dCall sp dd t) :=
  PE.mono (pe_call F hr hg hm hk hb hd hx ha hdb he hpl) fun σ H Q ⟨δ, G, Z, Q0, ok, rs, h, k⟩ =>
    ⟨δ, G, Z, _, ok, rs, h, fun ds G1 vs H1 h1 k1 ok1 r1 => ⟨_, G1, Z, Q0, _, ok1, r1.append (hdd _), h1, fun d G' v H' q k2 ok2 r2 => k _ _ _ _ q (k1.trans k2) ok2 r2, .none⟩⟩
theorem de_call0 (F : FnOk X.prog X.w X.K X.mg X.base CX k f fd ps (cSp X.K sp)) (hr : Room k X.A) (hg : Gl X x) (hm : X.mg x = some (.ref f)) (hk : PySem.W.keepIn X.K (.ref f) = true) (hb : Binds X.K fd ps ds) (hd : Vals dvs ds) (hdd : ∀ W, Reps X.K W dd dvs) (hx : Passes CX X E)
    (hdb : (x == ("__debug__" : Str)) = false := by decide) : DE X (.Call (.Name x p) [] [] pos) (dCall sp dd dNil) :=
  PE.mono (pe_call0 F hr hg hm hk hb hd hx hdb) fun σ H Q ⟨δ, G, Z, Q0, ok, rs, h, k⟩ =>
    ⟨_, G, Z, Q0, _, ok, hdd _, h, k, .none⟩
/-- f(e, .., k = v): the positional values, then the keywords', put in order by gD -/
def dCallN (n m : Nat) (sp : DSp) (gD : List D → List D → List D) (t tk : DTA) : DTE := fun δ G Q => t δ G fun ds G1 => tk δ G1 fun es G2 => ds.length = n ∧ es.length = m ∧ sp (gD ds es) G2 Q DX0
def DKw (X : Cx) (kws : List Keyword) (t : DTA) : Prop := PK X kws (cA X.K t)
theorem PK.mono {X : Cx} {e : List Keyword} {t u : TA} (h : PK X e t) (k : ∀ σ H Q, u σ H Q → t σ H Q) : PK X e u :=
  ⟨fun pos pins s σ H Q I q => h.run pos pins s σ H Q I (k σ H Q q)⟩
theorem dk_nil : DKw X [] dNil := PK.mono pk_nil fun σ H Q ⟨δ, G, Z, Q0, ok, rs, h, k⟩ => k _ _ _ _ h .refl ok .nil
theorem dk_cons {nm : Option Str} {kpos : Pos} {kws : List Keyword} {te : DTE} (ha : DE X e te) (hr : DKw X kws t) : DKw X (⟨nm, e, kpos⟩ :: kws) (dCons te t) :=
  PK.mono (pk_cons ha hr) fun σ H Q ⟨δ, G, Z, Q0, ok, rs, h, k⟩ =>
    ⟨δ, G, Z, _, ok, rs, h, fun x G1 v H1 h1 k1 ok1 r1 => ⟨δ, G1, Z, _, ok1, rs.mono k1.keep, h1, fun xs G2 us H2 h2 k2 ok2 r2 => k _ _ _ _ h2 (k1.trans k2) ok2 (.cons (r1.mono k2.keep) r2)⟩⟩
theorem de_callN {n : Nat} {ks : List Str} {kws : List Keyword} {tk : DTA} {g : List Value → List Value → List Value} {gV : List V → List V → List V} {gD : List D → List D → List D} (F : FnOk X.prog X.w X.K X.mg X.base CX k f fd ps (cSp X.K sp)) (hr : Room k X.A) (hg : Gl X x) (hm : X.mg x = some (.ref f)) (hk : PySem.W.keepIn X.K (.ref f) = true) (hb : KBn X.K fd ps n ks g gV)
    (hgD : ∀ W ds vs es us, Reps X.K W ds vs → Reps X.K W es us → Reps X.K W (gD ds es) (gV vs us)) (hx : Passes CX X E)
    (ha : DA X (e :: es) t) (hkw : DKw X kws tk) (hall : (backToKw pos (keywordEach kws X.env)).all (·.1.isSome) = true := by rfl) (hks : (backToKw pos (keywordEach kws X.env)).filterMap (·.1) = ks := by rfl)
    (hdb : (x == ("__debug__" : Str)) = false := by decide) (he : starEach (e :: es) X.env = (false, eval e X.env) :: starEach es X.env := by rfl)
    (hpl : ((backTo pos (starEach (e :: es) X.env)).any (·.1) || (backToKw pos (keywordEach kws X.env)).any (·.1.isNone)) = false := by rfl) :
    DE X (.Call (.Name x p) (e :: es) kws pos) (dCallN n ks.length sp gD t tk) :=
  PE.mono (pe_callN F hr hg hm hk hb hx ha hkw hall hks hdb he hpl) fun σ H Q ⟨δ, G, Z, Q0, ok, rs, h, k⟩ =>
    ⟨δ, G, Z, _, ok, rs, h, fun ds G1 vs H1 h1 k1 ok1 r1 => ⟨δ, G1, Z, _, ok1, rs.mono k1.keep, h1, fun es G2 us H2 h2 k2 ok2 r2 => by
      have r1' := r1.mono k2.keep
      exact ⟨r1'.length.symm.trans h2.1, r2.length.symm.trans h2.2.1, _, G2, Z, Q0, _, ok2, hgD _ _ _ _ _ r1' r2, h2.2.2, fun d G' v H' q k3 ok3 r3 => k _ _ _ _ q (k1.trans (k2.trans k3)) ok3 r3, .none⟩⟩⟩
end
/-! ### built-ins called by name -/
abbrev DRC := List D → GHp → DK → Prop
def cRC (K : PySem.W.Frag) (r : DRC) : List V → Hp → VK → Prop := fun vs H Q => ∃ (ds : List D) (G : GHp) (Z : Addr → Bool) (Q0 : DK), Ok K H G Z ∧ Reps K (U H G Z) ds vs ∧ r ds G Q0 ∧
  ∀ d G' v' H', Q0 d G' → Kp H G Z H' G' → Ok K H' G' Z → Rep K (U H' G' Z) d v' → Q v' H'
def DCall (X : Cx) (f : Value) (r : DRC) : Prop := CallR X f (cRC X.K r)
def dCB (r : DRC) (t : DTA) : DTE := fun δ G Q => t δ G fun ds G1 => r ds G1 Q
section
variable {X : Cx} {x : Str} {p pos : Pos} {e : Expr} {es : List Expr} {t : DTA} {id T : String} {r : DRC}
theorem de_callB (hc : DCall X (.builtin id) r) (hg : Gl X x) (hm : X.mg x = none) (hv : bootBuiltins x = some (.builtin id)) (ha : DA X (e :: es) t) (hn : x ≠ "__name__" := by decide) (hdb : (x == ("__debug__" : Str)) = false := by decide)
    (he : starEach (e :: es) X.env = (false, eval e X.env) :: starEach es X.env := by rfl) (hpl : (backTo pos (starEach es X.env)).any (·.1) = false := by rfl) : DE X (.Call (.Name x p) (e :: es) [] pos) (dCB r t) :=
  PE.mono (pe_callB hc hg hm hv ha hn hdb he hpl) fun σ H Q ⟨δ, G, Z, Q0, ok, rs, h, k⟩ =>
    ⟨δ, G, Z, _, ok, rs, h, fun ds G1 vs H1 h1 k1 ok1 r1 => ⟨ds, G1, Z, Q0, ok1, r1, h1, fun d G' v H' q k2 ok2 r2 => k _ _ _ _ q (k1.trans k2) ok2 r2⟩⟩
theorem de_callTy (hc : DCall X (.type T) r) (hg : Gl X x) (hm : X.mg x = none) (hv : bootBuiltins x = some (.type T)) (ha : DA X (e :: es) t) (hn : x ≠ "__name__" := by decide) (hdb : (x == ("__debug__" : Str)) = false := by decide)
    (he : starEach (e :: es) X.env = (false, eval e X.env) :: starEach es X.env := by rfl) (hpl : (backTo pos (starEach es X.env)).any (·.1) = false := by rfl) : DE X (.Call (.Name x p) (e :: es) [] pos) (dCB r t) :=
  PE.mono (pe_callTy hc hg hm hv ha hn hdb he hpl) fun σ H Q ⟨δ, G, Z, Q0, ok, rs, h, k⟩ =>
    ⟨δ, G, Z, _, ok, rs, h, fun ds G1 vs H1 h1 k1 ok1 r1 => ⟨ds, G1, Z, Q0, ok1, r1, h1, fun d G' v H' q k2 ok2 r2 => k _ _ _ _ q (k1.trans k2) ok2 r2⟩⟩
end

/-! ### a def keeps its promise -/
def dstart (N : List Str) (ds : List D) : DSt := ds.map some ++ List.replicate (N.length - ds.length) none
theorem RepSt.start {K : PySem.W.Frag} {W : Hp} {N : List Str} {ds : List D} {vs : List V} (r : Reps K W ds vs) : RepSt K W (dstart N ds) (L2.start N vs) := by
  unfold dstart L2.start
  rw [r.length]
  exact (RepSt.somes r).app (RepSt.nones _)
section
variable {P : Program} {w : World} {K : PySem.W.Frag} {mg : Str → Option Value} {base : Heap}
/-- a def that lets no exception out -/
theorem DFun.ok {x qual : Str} {st : Stmt} {f : Addr} {fd : FuncData} {N ps : List Str} {k : Nat} {sp : DSp} (F : Fun K x qual st f fd) (S : FnScope N ps (defScope st)) (len : ∀ ds G Q E, sp ds G Q E → ds.length = ps.length)
    (hbody : ∀ (cdv : Value) (A : Around) (outer : List Env) (s : Shared) (H : Hp) (E : XK) (ds : List D) (G : GHp) (Q : DK) (E0 : DXK), Room k (A.deeper (PyProof.Rows.envOfC qual (defScope st) s.heap.objs.size f cdv)) → sp ds G Q E0 →
      ∃ t, DSs (cxOf CX0 P w K mg base N qual (defScope st) f cdv A outer s H E).nox (defBody st) t ∧ t { nx := fun _ G' => Q .non G', rt := Q } (dstart N ds) G) : FnOk P w K mg base CX0 (k + 1) f fd ps (cSp K sp) := by
  refine F.ok S (fun vs H Q E ⟨ds, G, Z, Q0, E0, ok, rs, h, k, x⟩ => rs.length.symm.trans (len _ _ _ _ h)) fun cdv A outer s H vs Q E hr ⟨ds, G, Z, Q0, E0, ok, rs, h, k, x⟩ => ?_
  obtain ⟨t, d, q⟩ := hbody cdv A outer s H E ds G Q0 E0 hr h
  exact ⟨_, d, _, G, Z, _, ok, RepSt.start rs, q, ⟨fun δ' G' σ' H' q k1 ok1 _ => k _ _ _ _ q k1 ok1 .non, fun _ _ _ _ q => q.elim, fun _ _ _ _ q => q.elim, fun d G' v H' q k1 ok1 r1 => k _ _ _ _ q k1 ok1 r1⟩⟩
theorem DFn.imp {CX : CXT} {k : Nat} {f : Addr} {fd : FuncData} {ps : List Str} {sp sp' : DSp} (F : FnOk P w K mg base CX k f fd ps (cSp K sp)) (h : ∀ ds G Q E, sp' ds G Q E → sp ds G Q E) : FnOk P w K mg base CX k f fd ps (cSp K sp') :=
  F.imp fun vs H Q E ⟨ds, G, Z, Q0, E0, ok, rs, q, r⟩ => ⟨ds, G, Z, Q0, E0, ok, rs, h _ _ _ _ q, r⟩
end
end DL
set_option Elab.async false
set_option linter.all false
set_option maxRecDepth 100000
set_option maxHeartbeats 1000000
/-! DL, part 4: operators, subscripts, built-ins. -/
namespace DL
open PySem PySem.Spec L2

theorem OpR.imp {X : Cx} {f : Value → Value → Sem Value} {r r' : R2} (ho : OpR X f r) (h : ∀ x y H Q, r' x y H Q → r x y H Q) : OpR X f r' := fun pins s σ H x y v u Q I rx ry q => ho pins s σ H x y v u Q I rx ry (h x y H Q q)
theorem CallR.imp {X : Cx} {f : Value} {r r' : List V → Hp → VK → Prop} (ho : CallR X f r) (h : ∀ x H Q, r' x H Q → r x H Q) : CallR X f r' := fun pins s σ H xs us Q I rx q => ho pins s σ H xs us Q I rx (h xs H Q q)
theorem UnR.imp {X : Cx} {f : Value → Sem Value} {r r' : V → Hp → VK → Prop} (ho : UnR X f r) (h : ∀ x H Q, r' x H Q → r x H Q) : UnR X f r' := fun pins s σ H xs us Q I rx q => ho pins s σ H xs us Q I rx (h xs H Q q)
theorem IxR.imp {X : Cx} {r r' : R2} (ho : IxR X r) (h : ∀ x y H Q, r' x y H Q → r x y H Q) : IxR X r' := fun va sl pins s σ H x y v u Q I rx ry q e => ho va sl pins s σ H x y v u Q I rx ry (h x y H Q q) e
theorem SlR.imp {X : Cx} {r r' : V → Option Int → Option Int → Hp → VK → Prop} (ho : SlR X r) (h : ∀ x a b H Q, r' x a b H Q → r x a b H Q) : SlR X r' := fun pins s σ H x v vl vu lo hi sl Q I rx e p1 p2 q => ho pins s σ H x v vl vu lo hi sl Q I rx e p1 p2 (h x lo hi H Q q)

/-! ### ints -/
def dI (C : Int → Int → Prop) (g : Int → Int → D) : DR2 := fun x y G Q => match x, y with
  | .int i, .int j => C i j ∧ Q (g i j) G
  | _, _ => False
def dI0 (g : Int → Int → D) : DR2 := fun x y G Q => match x, y with
  | .int i, .int j => Q (g i j) G
  | _, _ => False
section
variable {X : Cx} {f : Value → Value → Sem Value}
theorem dop_I {C : Int → Int → Prop} {g : Int → Int → V} {gd : Int → Int → D} (ho : OpR X f (rI C g)) (hr : ∀ i j W, Rep X.K W (gd i j) (g i j)) : DOp X f (dI C gd) :=
  OpR.imp ho fun v u H Q ⟨x, y, G, Z, Q0, ok, r1, r2, h, k⟩ => by
    cases r1 with
    | int i =>
      cases r2 with
      | int j => exact ⟨i, j, rfl, rfl, h.1, k _ _ _ _ h.2 .refl ok (hr _ _ _)⟩
      | _ => exact False.elim h
    | _ => cases r2 <;> exact False.elim h
theorem dop_I0 {g : Int → Int → V} {gd : Int → Int → D} (ho : OpR X f (rI0 g)) (hr : ∀ i j W, Rep X.K W (gd i j) (g i j)) : DOp X f (dI0 gd) :=
  OpR.imp ho fun v u H Q ⟨x, y, G, Z, Q0, ok, r1, r2, h, k⟩ => by
    cases r1 with
    | int i =>
      cases r2 with
      | int j => exact ⟨i, j, rfl, rfl, k _ _ _ _ h .refl ok (hr _ _ _)⟩
      | _ => exact False.elim h
    | _ => cases r2 <;> exact False.elim h
/-- a product is no too great number -/
def MulOk (i j : Int) : Prop := CMul i j ∨ CMulW i j
theorem MulOk.ok {i j : Int} (h : MulOk i j) : PySem.IntMulOk i j := h.elim (fun h => h.ok) (fun h => h.ok)
theorem op_mulX : OpR X (binaryOp .Mult) (rI MulOk fun i j => .int (i * j)) := opI fun _ _ _ _ _ _ _ hc q => PyProof.Rows.mul_int q hc.ok
/-- a divisor of either sign, below 2 ^ 9000 -/
def DivOk (j : Int) : Prop := j ≠ 0 ∧ j.natAbs.log2 < 9000
theorem op_fdivX : OpR X (binaryOp .FloorDiv) (rI (fun _ j => DivOk j) fun i j => .int (i.fdiv j)) := opI fun i j _ _ _ _ _ hc q =>
  PyProof.Rows.floordiv_int hc.1 q (.inl (PyProof.noPylong_of_log2 hc.2))
theorem dop_sub : DOp X (binaryOp .Sub) (dI0 fun i j => .int (i - j)) := dop_I0 op_sub fun i j _ => .int _
theorem dop_mul : DOp X (binaryOp .Mult) (dI MulOk fun i j => .int (i * j)) := dop_I op_mulX fun i j _ => .int _
theorem dop_fdiv : DOp X (binaryOp .FloorDiv) (dI CDivW fun i j => .int (i / j)) := dop_I op_fdivW fun i j _ => .int _
theorem dop_fdivN : DOp X (binaryOp .FloorDiv) (dI (fun _ j => DivOk j) fun i j => .int (i.fdiv j)) := dop_I op_fdivX fun i j _ => .int _
theorem dop_mod : DOp X (binaryOp .Mod) (dI (fun _ j => 0 < j) fun i j => .int (i % j)) := dop_I op_mod fun i j _ => .int _
theorem dop_pow : DOp X (binaryOp .Pow) (dI CPow fun i j => .int (i ^ j.toNat)) := dop_I op_pow fun i j _ => .int _
theorem dop_addI : DOp X (binaryOp .Add) (dI0 fun i j => .int (i + j)) := dop_I0 op_add fun i j _ => .int _
theorem diop_add : DOp X (inplaceOp .Add) (dI0 fun i j => .int (i + j)) := dop_I0 iop_add fun i j _ => .int _
theorem diop_sub : DOp X (inplaceOp .Sub) (dI0 fun i j => .int (i - j)) := dop_I0 iop_sub fun i j _ => .int _
def dNeg : DR1 := fun x G Q => match x with
  | .int i => Q (.int (-i)) G
  | _ => False
theorem dun_neg : DUn X (unaryOp .USub) dNeg :=
  UnR.imp un_neg fun v H Q ⟨x, G, Z, Q0, ok, r1, h, k⟩ => by
    cases r1 with
    | int i => exact ⟨i, rfl, k _ _ _ _ h .refl ok (.int _)⟩
    | _ => exact False.elim h
end

/-! ### + of anything -/
/-- the result list: as it stays -/
def dAddR : DR2 := fun x y G Q => match x, y with
  | .int i, .int j => Q (.int (i + j)) G
  | .str a, .str b => a.length + b.length ≤ sizeLine ∧ Q (.str (a ++ b)) G
  | .tup xs, .tup ys => xs ≠ [] ∧ xs.length + ys.length ≤ sizeLine ∧ Q (.tup (xs ++ ys)) G
  | x, y => match lsOf G x, lsOf G y with
    | some xs, some ys => xs.length + ys.length ≤ sizeLine ∧ Q (.lst (xs ++ ys)) G
    | _, _ => False
section
variable {X : Cx}
theorem Reps.nil_iff {K : PySem.W.Frag} {W : Hp} {ds : List D} {vs : List V} (r : Reps K W ds vs) : vs = [] ↔ ds = [] := by cases r <;> simp
theorem dop_add : DOp X (binaryOp .Add) dAddR :=
  OpR.imp (OpR.or op_add (OpR.or op_add_str (OpR.or op_catT op_cat))) fun v u H Q ⟨x, y, G, Z, Q0, ok, r1, r2, h, k⟩ => by
    have lst : (match lsOf G x, lsOf G y with
      | some xs, some ys => xs.length + ys.length ≤ sizeLine ∧ Q0 (.lst (xs ++ ys)) G
      | _, _ => False) → rCat v u H Q := by
      intro h
      split at h
      · next xs ys e1 e2 =>
        obtain ⟨a, vs, rfl, ha, ra⟩ := lsOf_of ok r1 e1
        obtain ⟨b, us, rfl, hb, rb⟩ := lsOf_of ok r2 e2
        refine ⟨a, b, vs, us, rfl, rfl, ha, hb, by rw [← ra.length, ← rb.length]; exact h.1, fun p hp => ?_⟩
        exact k _ _ _ _ h.2 (Kp.laid hp) (ok.laid hp) (.lst (U_laid ok hp) ((ra.append rb).mono (Kp.laid hp).keep))
      · exact h.elim
    cases r1 with
    | int i =>
      cases r2 with
      | int j => exact .inl ⟨i, j, rfl, rfl, k _ _ _ _ h .refl ok (.int _)⟩
      | _ => exact .inr (.inr (.inr (lst h)))
    | str a =>
      cases r2 with
      | str b => exact .inr (.inl ⟨a, b, rfl, rfl, h.1, k _ _ _ _ h.2 .refl ok (.str _)⟩)
      | _ => exact .inr (.inr (.inr (lst h)))
    | tup q1 s1 =>
      cases r2 with
      | tup q2 s2 =>
        refine .inr (.inr (.inl ⟨_, _, _, _, rfl, rfl, SqT.mono U_le q1, SqT.mono U_le q2, fun e => h.1 (s1.nil_iff.mp e), by rw [← s1.length, ← s2.length]; exact h.2.1, fun e => ?_, fun e p hp => ?_⟩))
        · have e2 := s2.nil_iff.mp e
          subst e2
          exact k _ _ _ _ h.2.2 .refl ok (by rw [List.append_nil]; exact .tup q1 s1)
        · exact k _ _ _ _ h.2.2 (Kp.laid hp) (ok.laid hp) (.tup (SqT.of (U_laid ok hp)) ((s1.append s2).mono (Kp.laid hp).keep))
      | _ => exact .inr (.inr (.inr (lst h)))
    | _ => cases r2 <;> exact .inr (.inr (.inr (lst h)))
/-- list + list, to be changed -/
def dCatM : DR2 := fun x y G Q => match lsOf G x, lsOf G y with
  | some xs, some ys => xs.length + ys.length ≤ sizeLine ∧ ∀ p, G p = none → Q (.ref p) (gupd G p (.lst (xs ++ ys)))
  | _, _ => False
theorem dop_catM : DOp X (binaryOp .Add) dCatM :=
  OpR.imp op_cat fun v u H Q ⟨x, y, G, Z, Q0, ok, r1, r2, h, k⟩ => by
    unfold dCatM at h
    split at h
    · next xs ys e1 e2 =>
      obtain ⟨a, vs, rfl, ha, ra⟩ := lsOf_of ok r1 e1
      obtain ⟨b, us, rfl, hb, rb⟩ := lsOf_of ok r2 e2
      refine ⟨a, b, vs, us, rfl, rfl, ha, hb, by rw [← ra.length, ← rb.length]; exact h.1, fun p hp => ?_⟩
      have hg := (ok.free hp).1
      have kk : Kp H G Z (upd H p (.lst (vs ++ us))) (gupd G p (.lst (xs ++ ys))) := Kp.laidG hp hg
      exact k _ _ _ _ (h.2 p hg) kk (ok.laidG hp ⟨_, upd_same, (ra.append rb).mono kk.keep⟩) (.ref p)
    · exact h.elim
/-- list * int -/
def dRepR (m : Bool) : DR2 := fun x y G Q => match lsOf G x, y with
  | some xs, .int n => -(2 ^ 63) ≤ n ∧ n < 2 ^ 63 ∧ xs.length * n.toNat ≤ sizeLine ∧ lcEnd m (List.replicate n.toNat xs).flatten G Q
  | _, _ => False
theorem Reps.rep {K : PySem.W.Frag} {W : Hp} {ds : List D} {vs : List V} (r : Reps K W ds vs) : ∀ n : Nat, Reps K W (List.replicate n ds).flatten (List.replicate n vs).flatten
  | 0 => .nil
  | n + 1 => by
    rw [List.replicate_succ, List.replicate_succ, List.flatten_cons, List.flatten_cons]
    exact r.append (Reps.rep r n)
/-- a new list, laid at p -/
theorem lcEnd_of {K : PySem.W.Frag} {H : Hp} {G : GHp} {Z : Addr → Bool} {Q : VK} {Q0 : DK} {m : Bool} {ds : List D} {vs : List V} {p : Addr} (ok : Ok K H G Z) (hp : H p = none) (r : Reps K (U H G Z) ds vs) (h : lcEnd m ds G Q0)
    (k : ∀ d G' v H', Q0 d G' → Kp H G Z H' G' → Ok K H' G' Z → Rep K (U H' G' Z) d v → Q v H') : Q (.ref p) (upd H p (.lst vs)) := by
  cases m with
  | false => exact k _ _ _ _ h (Kp.laid hp) (ok.laid hp) (.lst (U_laid ok hp) (r.mono (Kp.laid hp).keep))
  | true =>
    have hg := (ok.free hp).1
    have kk : Kp H G Z (upd H p (.lst vs)) (gupd G p (.lst ds)) := Kp.laidG hp hg
    exact k _ _ _ _ (h p hg) kk (ok.laidG hp ⟨_, upd_same, r.mono kk.keep⟩) (.ref p)
theorem dop_rep (m : Bool) : DOp X (binaryOp .Mult) (dRepR m) :=
  OpR.imp op_rep fun v u H Q ⟨x, y, G, Z, Q0, ok, r1, r2, h, k⟩ => by
    unfold dRepR at h
    split at h
    · next xs n e1 =>
      obtain ⟨a, vs, rfl, ha, ra⟩ := lsOf_of ok r1 e1
      cases r2
      exact ⟨a, n, vs, rfl, rfl, ha, h.1, h.2.1, by rw [← ra.length]; exact h.2.2.1, fun p hp => lcEnd_of ok hp (ra.rep _) h.2.2.2 k⟩
    · exact h.elim
end

/-! ### == -/
mutual
def D.data : D → Option PyData
  | .non => some .none
  | .bl b => some (.bool b)
  | .int i => some (.int i)
  | .str x => some (.str x)
  | .tup ds => (D.dataL ds).map .tuple
  | .lst ds => (D.dataL ds).map .list
  | _ => none
def D.dataL : List D → Option (List PyData)
  | [] => some []
  | d :: r => match D.data d, D.dataL r with
    | some x, some xs => some (x :: xs)
    | _, _ => none
end
def pdOf (G : GHp) : D → Option PyData
  | .ref a => match G a with
    | some (.lst ds) => (D.dataL ds).map .list
    | _ => none
  | d => d.data
section
variable {K : PySem.W.Frag} {W H : Hp}
mutual
theorem Rep.dp (le : ∀ a o, W a = some o → H a = some o) : ∀ {d : D} {v : V} {p : PyData}, Rep K W d v → d.data = some p → Dp K H v p
  | _, _, p, .non, e => by simp only [D.data, Option.some.injEq] at e; subst e; exact .non
  | _, _, p, .bl b, e => by simp only [D.data, Option.some.injEq] at e; subst e; exact .bl b
  | _, _, p, .int b, e => by simp only [D.data, Option.some.injEq] at e; subst e; exact .int b
  | _, _, p, .str b, e => by simp only [D.data, Option.some.injEq] at e; subst e; exact .str b
  | _, _, p, .ty b, e => by simp [D.data] at e
  | _, _, p, .ref b, e => by simp [D.data] at e
  | _, _, p, .scr _ _, e => by simp [D.data] at e
  | _, _, p, .tup (ds := ds) h r, e => by
    simp only [D.data] at e
    cases q : D.dataL ds with
    | none => rw [q] at e; simp at e
    | some ps =>
      rw [q] at e
      simp only [Option.map_some, Option.some.injEq] at e
      subst e
      exact .tup (SqT.mono le h) (Reps.dp le r q)
  | _, _, p, .lst (ds := ds) h r, e => by
    simp only [D.data] at e
    cases q : D.dataL ds with
    | none => rw [q] at e; simp at e
    | some ps =>
      rw [q] at e
      simp only [Option.map_some, Option.some.injEq] at e
      subst e
      exact .lst (SqL.of (le _ _ h)) (Reps.dp le r q)
theorem Reps.dp (le : ∀ a o, W a = some o → H a = some o) : ∀ {ds : List D} {vs : List V} {ps : List PyData}, Reps K W ds vs → D.dataL ds = some ps → DpAll K H vs ps
  | _, _, ps, .nil, e => by simp only [D.dataL, Option.some.injEq] at e; subst e; exact .nil
  | _, _, ps, .cons (d := d) (ds := ds) h r, e => by
    simp only [D.dataL] at e
    split at e
    · next x xs e1 e2 =>
      cases e
      exact .cons (Rep.dp le h e1) (Reps.dp le r e2)
    · cases e
end
end
theorem pd_of {K : PySem.W.Frag} {H : Hp} {G : GHp} {Z : Addr → Bool} {x : D} {v : V} {p : PyData} (ok : Ok K H G Z) (r : Rep K (U H G Z) x v) (h : pdOf G x = some p) : Dp K H v p := by
  cases r with
  | ref a =>
    unfold pdOf at h
    simp only at h
    split at h
    · next ds e =>
      obtain ⟨_, xs, h1, h2⟩ := ok.ok a _ e
      cases q : D.dataL ds with
      | none => rw [q] at h; simp at h
      | some ps =>
        rw [q] at h
        simp only [Option.map_some, Option.some.injEq] at h
        subst h
        exact .lst (SqL.of h1) (Reps.dp U_le h2 q)
    · cases h
  | tup q s => exact Rep.dp U_le (.tup q s) h
  | lst q s => exact Rep.dp U_le (.lst q s) h
  | non => exact Rep.dp (K := K) (W := U H G Z) U_le .non h
  | bl b => exact Rep.dp (K := K) (W := U H G Z) U_le (.bl b) h
  | int b => exact Rep.dp (K := K) (W := U H G Z) U_le (.int b) h
  | str b => exact Rep.dp (K := K) (W := U H G Z) U_le (.str b) h
  | ty b => exact Rep.dp (K := K) (W := U H G Z) U_le (.ty b) h
  | scr q s => exact Rep.dp U_le (.scr q s) h
def dEqR : DR2 := fun x y G Q => match x, y with
  | .int i, .int j => Q (.bl (decide (i = j))) G
  | .str i, .str j => Q (.bl (decide (i = j))) G
  | .bl i, .bl j => Q (.bl (decide (i = j))) G
  | x, y => match pdOf G x, pdOf G y with
    | some p, some q => SeqAt.shaped p = true ∧ SeqAt.shaped q = true ∧ Q (.bl (PyData.eqv p q)) G
    | _, _ => False
def dNeR : DR2 := fun x y G Q => match x, y with
  | .int i, .int j => Q (.bl (!decide (i = j))) G
  | .str i, .str j => Q (.bl (!decide (i = j))) G
  | .bl i, .bl j => Q (.bl (!decide (i = j))) G
  | x, y => match pdOf G x, pdOf G y with
    | some p, some q => SeqAt.shaped p = true ∧ SeqAt.shaped q = true ∧ Q (.bl (!PyData.eqv p q)) G
    | _, _ => False
section
variable {X : Cx}
theorem dop_eq (hu : X.A.units + 64 < cLine) : DOp X (compareOp .Eq) dEqR :=
  OpR.imp (OpR.or op_eq (op_eqD hu)) fun v u H Q ⟨x, y, G, Z, Q0, ok, r1, r2, h, k⟩ => by
    have gen : (match pdOf G x, pdOf G y with
      | some p, some q => SeqAt.shaped p = true ∧ SeqAt.shaped q = true ∧ Q0 (.bl (PyData.eqv p q)) G
      | _, _ => False) → rEqD X.K v u H Q := by
      intro h
      split at h
      · next p q e1 e2 => exact ⟨p, q, pd_of ok r1 e1, pd_of ok r2 e2, h.1, h.2.1, k _ _ _ _ h.2.2 .refl ok (.bl _)⟩
      · exact h.elim
    cases r1 with
    | int i =>
      cases r2 with
      | int j => exact .inl ⟨rfl, by have := k _ _ _ _ h .refl ok (.bl _); simpa using this⟩
      | _ => exact .inr (gen h)
    | str i =>
      cases r2 with
      | str j => exact .inl ⟨rfl, by have := k _ _ _ _ h .refl ok (.bl _); simpa using this⟩
      | _ => exact .inr (gen h)
    | bl i =>
      cases r2 with
      | bl j => exact .inl ⟨rfl, by have := k _ _ _ _ h .refl ok (.bl _); simpa using this⟩
      | _ => exact .inr (gen h)
    | _ => cases r2 <;> exact .inr (gen h)
theorem dop_ne (hu : X.A.units + 64 < cLine) : DOp X (compareOp .NotEq) dNeR :=
  OpR.imp (OpR.or op_ne (op_neD hu)) fun v u H Q ⟨x, y, G, Z, Q0, ok, r1, r2, h, k⟩ => by
    have gen : (match pdOf G x, pdOf G y with
      | some p, some q => SeqAt.shaped p = true ∧ SeqAt.shaped q = true ∧ Q0 (.bl (!PyData.eqv p q)) G
      | _, _ => False) → rNeD X.K v u H Q := by
      intro h
      split at h
      · next p q e1 e2 => exact ⟨p, q, pd_of ok r1 e1, pd_of ok r2 e2, h.1, h.2.1, k _ _ _ _ h.2.2 .refl ok (.bl _)⟩
      · exact h.elim
    cases r1 with
    | int i =>
      cases r2 with
      | int j => exact .inl ⟨rfl, by have := k _ _ _ _ h .refl ok (.bl _); simpa using this⟩
      | _ => exact .inr (gen h)
    | str i =>
      cases r2 with
      | str j => exact .inl ⟨rfl, by have := k _ _ _ _ h .refl ok (.bl _); simpa using this⟩
      | _ => exact .inr (gen h)
    | bl i =>
      cases r2 with
      | bl j => exact .inl ⟨rfl, by have := k _ _ _ _ h .refl ok (.bl _); simpa using this⟩
      | _ => exact .inr (gen h)
    | _ => cases r2 <;> exact .inr (gen h)

/-! ### <, <=, >, >= of ints and texts -/
def dCmpR (f : Int → Int → Bool) (g : List Nat → List Nat → Bool) : DR2 := fun x y G Q => match x, y with
  | .int i, .int j => Q (.bl (f i j)) G
  | .str a, .str b => Q (.bl (g a.cps.toList b.cps.toList)) G
  | _, _ => False
theorem dop_cmp {op : CmpOp} {f : Int → Int → Bool} {g : List Nat → List Nat → Bool} (h1 : OpR X (compareOp op) (rI0 fun i j => .bl (f i j)))
    (h2 : OpR X (compareOp op) (fun x y H Q => ∃ i j, x = .str i ∧ y = .str j ∧ Q (.bl (g i.cps.toList j.cps.toList)) H)) : DOp X (compareOp op) (dCmpR f g) :=
  OpR.imp (OpR.or h1 h2) fun v u H Q ⟨x, y, G, Z, Q0, ok, r1, r2, h, k⟩ => by
    cases r1 with
    | int i =>
      cases r2 with
      | int j => exact .inl ⟨i, j, rfl, rfl, k _ _ _ _ h .refl ok (.bl _)⟩
      | _ => exact False.elim h
    | str i =>
      cases r2 with
      | str j => exact .inr ⟨i, j, rfl, rfl, k _ _ _ _ h .refl ok (.bl _)⟩
      | _ => exact False.elim h
    | _ => cases r2 <;> exact False.elim h
theorem dop_lt : DOp X (compareOp .Lt) (dCmpR (fun i j => decide (i < j)) (fun a b => decide (a < b))) := dop_cmp op_lt op_lt_str
theorem dop_le : DOp X (compareOp .LtE) (dCmpR (fun i j => decide (i ≤ j)) (fun a b => !decide (b < a))) := dop_cmp op_le op_le_str
theorem dop_gt : DOp X (compareOp .Gt) (dCmpR (fun i j => decide (j < i)) (fun a b => decide (b < a))) := dop_cmp op_gt op_gt_str
theorem dop_ge : DOp X (compareOp .GtE) (dCmpR (fun i j => decide (j ≤ i)) (fun a b => !decide (a < b))) := dop_cmp op_ge op_ge_str

/-! ### is -/
def isNon : D → Bool
  | .non => true
  | _ => false
/-- is None, is True, is False -/
def dIsR : DR2 := fun x y G Q => match y, x with
  | .non, x => Q (.bl (isNon x)) G
  | .bl j, .bl i => Q (.bl (decide (i = j))) G
  | _, _ => False
def dIsNR : DR2 := fun x y G Q => match y, x with
  | .non, x => Q (.bl (!isNon x)) G
  | .bl j, .bl i => Q (.bl (!decide (i = j))) G
  | _, _ => False
theorem isNon_of {K : PySem.W.Frag} {W : Hp} {x : D} {v : V} (r : Rep K W x v) : decide (v = .non) = isNon x := by cases r <;> rfl
theorem dop_is : DOp X (compareOp .Is) dIsR :=
  OpR.imp (OpR.or op_isN op_isBl) fun v u H Q ⟨x, y, G, Z, Q0, ok, r1, r2, h, k⟩ => by
    cases r2 with
    | non => exact .inl ⟨rfl, k _ _ _ _ h .refl ok (by rw [isNon_of r1]; exact .bl _)⟩
    | bl j =>
      cases r1 with
      | bl i => exact .inr ⟨i, j, rfl, rfl, k _ _ _ _ h .refl ok (.bl _)⟩
      | _ => exact False.elim h
    | _ => cases r1 <;> exact False.elim h
theorem dop_isN : DOp X (compareOp .IsNot) dIsNR :=
  OpR.imp (OpR.or op_notN op_notBl) fun v u H Q ⟨x, y, G, Z, Q0, ok, r1, r2, h, k⟩ => by
    cases r2 with
    | non => exact .inl ⟨rfl, k _ _ _ _ h .refl ok (by rw [isNon_of r1]; exact .bl _)⟩
    | bl j =>
      cases r1 with
      | bl i => exact .inr ⟨i, j, rfl, rfl, k _ _ _ _ h .refl ok (.bl _)⟩
      | _ => exact False.elim h
    | _ => cases r1 <;> exact False.elim h
end

/-! ### subscripts -/
/-- a place of any sign -/
def atD (ds : List D) (i : Int) (Q : D → Prop) : Prop := match atI ds i with
  | some d => Q d
  | none => False
theorem atI_rep {K : PySem.W.Frag} {W : Hp} {ds : List D} {vs : List V} {i : Int} {d : D} (r : Reps K W ds vs) (h : atI ds i = some d) : ∃ v, atI vs i = some v ∧ Rep K W d v := by
  unfold atI at h ⊢
  rw [← r.length]
  cases e : ixN ds.length i with
  | none => rw [e] at h; simp at h
  | some j =>
    rw [e] at h
    exact r.get h
def dIxR : DR2 := fun x y G Q => match y with
  | .int i => match x with
    | .tup ds => atD ds i fun d => Q d G
    | .scr ds => atD ds i fun d => Q d G
    | .str z => z.length ≤ sizeLine ∧ ∃ c, atI z.cps.toList i = some c ∧ Q (.str ⟨#[c]⟩) G
    | x => match lsOf G x with
      | some ds => atD ds i fun d => Q d G
      | none => False
  | _ => False
def DIx (X : Cx) (r : DR2) : Prop := IxR X (cR2 X.K r)
section
variable {X : Cx} {a b : Expr} {ta tb : DTE} {pos : Pos}
theorem de_ix {r : DR2} (hr : DIx X r) (ha : DE X a ta) (hb : DE X b tb) (hs : PlainIx b) : DE X (.Subscript a b pos) (dOp r ta tb) :=
  PE.mono (pe_ix hr ha hb hs) fun _ _ _ h => op_split h
theorem dix_seq : DIx X dIxR :=
  IxR.imp (ix_seq) fun v u H Q ⟨x, y, G, Z, Q0, ok, r1, r2, h, k⟩ => by
    unfold dIxR at h
    split at h
    · next i =>
      cases r2
      have lst : (match lsOf G x with | some ds => atD ds i fun d => Q0 d G | none => False) → rIxL X.K v (.int i) H Q := by
        intro h
        split at h
        · next ds e =>
          obtain ⟨a, vs, rfl, ha, ra⟩ := lsOf_of ok r1 e
          unfold atD at h
          split at h
          · next d ed =>
            obtain ⟨w, e1, rw'⟩ := atI_rep ra ed
            exact ⟨a, vs, i, w, rfl, rfl, SqL.of ha, e1, k _ _ _ _ h .refl ok rw'⟩
          · exact h.elim
        · exact h.elim
      cases r1 with
      | tup q s =>
        have h : atD _ i fun d => Q0 d G := h
        unfold atD at h
        split at h
        · next d ed =>
          obtain ⟨w, e1, rw'⟩ := atI_rep s ed
          exact .inr (.inl ⟨_, _, i, w, rfl, rfl, SqT.mono U_le q, e1, k _ _ _ _ h .refl ok rw'⟩)
        · exact h.elim
      | scr q s =>
        have h : atD _ i fun d => Q0 d G := h
        unfold atD at h
        split at h
        · next d ed =>
          obtain ⟨w, e1, rw'⟩ := atI_rep s ed
          exact .inl ⟨_, _, i, w, rfl, rfl, SqL.mono U_le q, e1, k _ _ _ _ h .refl ok rw'⟩
        · exact h.elim
      | str z =>
        obtain ⟨hz, c, hc, q⟩ := h
        exact .inr (.inr ⟨z, i, c, rfl, rfl, hz, hc, k _ _ _ _ q .refl ok (.str _)⟩)
      | _ => exact .inl (lst h)
    · exact h.elim
end
/-! slices -/
abbrev DTO := DSt → GHp → (Option Int → GHp → Prop) → Prop
def cO (K : PySem.W.Frag) (t : DTO) : TO := fun σ H Q => ∃ (δ : DSt) (G : GHp) (Z : Addr → Bool) (Q0 : Option Int → GHp → Prop), Ok K H G Z ∧ RepSt K (U H G Z) δ σ ∧ t δ G Q0 ∧
  ∀ b G' H', Q0 b G' → Kp H G Z H' G' → Ok K H' G' Z → Q b H'
def DO (X : Cx) (e : Option Expr) (t : DTO) : Prop := PO X e (cO X.K t)
theorem PO.mono {X : Cx} {e : Option Expr} {t u : TO} (h : PO X e t) (k : ∀ σ H Q, u σ H Q → t σ H Q) : PO X e u :=
  ⟨fun pins s σ H Q I q => h.run pins s σ H Q I (k σ H Q q)⟩
def dNoPart : DTO := fun _ G Q => Q none G
def dPart (t : DTE) : DTO := fun δ G Q => t δ G fun x G1 => match x with
  | .int i => Q (some i) G1
  | _ => False
/-- the items of ds[lo:hi] -/
def cutD (ds : List D) (lo hi : Option Int) : List D := (ds.drop (HT.sIx ds.length 0 lo)).take (HT.sIx ds.length ds.length hi - HT.sIx ds.length 0 lo)
theorem Reps.cut {K : PySem.W.Frag} {W : Hp} {ds : List D} {vs : List V} (r : Reps K W ds vs) (lo hi : Option Int) : Reps K W (cutD ds lo hi) (cutV vs lo hi) := by
  unfold cutD cutV
  rw [r.length]
  exact (r.drop _).take _
def dSlR (m : Bool) : D → Option Int → Option Int → GHp → DK → Prop := fun x lo hi G Q => match x with
  | .str z => z.length ≤ sizeLine ∧ Q (.str (cutS z lo hi)) G
  | .tup ds => ¬ (HT.sIx ds.length 0 lo = 0 ∧ HT.sIx ds.length ds.length hi = ds.length) ∧ Q (.tup (cutD ds lo hi)) G
  | x => match lsOf G x with
    | some ds => lcEnd m (cutD ds lo hi) G Q
    | none => False
def dSl (r : D → Option Int → Option Int → GHp → DK → Prop) (te : DTE) (tl th : DTO) : DTE := fun δ G Q => te δ G fun x G1 => tl δ G1 fun l G2 => th δ G2 fun u G3 => r x l u G3 Q
section
variable {X : Cx} {e : Expr} {te : DTE} {lo hi : Option Expr} {tl th : DTO} {pos p2 : Pos}
theorem do_none : DO X none dNoPart := PO.mono po_none fun σ H Q ⟨δ, G, Z, Q0, ok, rs, h, k⟩ => k _ _ _ h .refl ok
theorem do_some (h : DE X e te) : DO X (some e) (dPart te) :=
  PO.mono (po_some h) fun σ H Q ⟨δ, G, Z, Q0, ok, rs, h, k⟩ =>
    ⟨δ, G, Z, _, ok, rs, h, fun x G1 v H1 h1 k1 ok1 r1 => by
      cases r1 with
      | int i => exact ⟨i, rfl, k _ _ _ h1 k1 ok1⟩
      | _ => exact False.elim h1⟩
def cSl (K : PySem.W.Frag) (r : D → Option Int → Option Int → GHp → DK → Prop) : V → Option Int → Option Int → Hp → VK → Prop := fun v lo hi H Q => ∃ (x : D) (G : GHp) (Z : Addr → Bool) (Q0 : DK), Ok K H G Z ∧ Rep K (U H G Z) x v ∧ r x lo hi G Q0 ∧
  ∀ d G' v' H', Q0 d G' → Kp H G Z H' G' → Ok K H' G' Z → Rep K (U H' G' Z) d v' → Q v' H'
theorem slr (m : Bool) : SlR X (cSl X.K (dSlR m)) :=
  SlR.imp (SlR.or sl_list (SlR.or sl_tup sl_str)) fun v lo hi H Q ⟨x, G, Z, Q0, ok, r1, h, k⟩ => by
    have lst : (match lsOf G x with | some ds => lcEnd m (cutD ds lo hi) G Q0 | none => False) → rSlL X.K v lo hi H Q := by
      intro h
      split at h
      · next ds e =>
        obtain ⟨a, vs, rfl, ha, ra⟩ := lsOf_of ok r1 e
        exact ⟨a, vs, rfl, SqL.of ha, fun p hp => lcEnd_of ok hp (ra.cut lo hi) h k⟩
      · exact h.elim
    cases r1 with
    | str z => exact .inr (.inr ⟨z, rfl, h.1, k _ _ _ _ h.2 .refl ok (.str _)⟩)
    | tup q s =>
      refine .inr (.inl ⟨_, _, rfl, SqT.mono U_le q, by rw [← s.length]; exact h.1, fun p hp => ?_⟩)
      exact k _ _ _ _ h.2 (Kp.laid hp) (ok.laid hp) (.tup (SqT.of (U_laid ok hp)) ((s.cut lo hi).mono (Kp.laid hp).keep))
    | _ => exact .inl (lst h)
theorem de_slice (m : Bool) (he : DE X e te) (hl : DO X lo tl) (hu : DO X hi th) : DE X (.Subscript e (.Slice lo hi none p2) pos) (dSl (dSlR m) te tl th) :=
  PE.mono (pe_slice (slr m) he hl hu) fun σ H Q ⟨δ, G, Z, Q0, ok, rs, h, k⟩ =>
    ⟨δ, G, Z, _, ok, rs, h, fun x G1 v H1 h1 k1 ok1 r1 => ⟨δ, G1, Z, _, ok1, rs.mono k1.keep, h1, fun l G2 H2 h2 k2 ok2 => ⟨δ, G2, Z, _, ok2, rs.mono (k1.trans k2).keep, h2, fun u G3 H3 h3 k3 ok3 =>
      ⟨x, G3, Z, Q0, ok3, r1.mono (k2.trans k3).keep, h3, fun d G' v' H' q k4 ok4 r4 => k _ _ _ _ q (k1.trans (k2.trans (k3.trans k4))) ok4 r4⟩⟩⟩⟩
/-- xs[::-1] -/
def dRevR (m : Bool) (te : DTE) : DTE := fun δ G Q => te δ G fun x G1 => match lsOf G1 x with
  | some ds => lcEnd m ds.reverse G1 Q
  | none => False
theorem de_rev (m : Bool) {k : Nat} {p1 p3 p4 : Pos} (he : DE X e te) : DE X (.Subscript e (.Slice none none (some (.UnaryOp .USub (.Constant (.int 1) k p1) p2)) p3) pos) (dRevR m te) :=
  PE.mono (pe_revL he) fun σ H Q ⟨δ, G, Z, Q0, ok, rs, h, k⟩ =>
    ⟨δ, G, Z, _, ok, rs, h, fun x G1 v H1 h1 k1 ok1 r1 => by
      have h1 : (match lsOf G1 x with | some ds => lcEnd m ds.reverse G1 Q0 | none => False) := h1
      split at h1
      · next ds e =>
        obtain ⟨a, vs, rfl, ha, ra⟩ := lsOf_of ok1 r1 e
        exact ⟨a, vs, rfl, SqL.of ha, fun p hp => lcEnd_of ok1 hp ra.reverse h1 fun d G' v' H' q k2 ok2 r2 => k _ _ _ _ q (k1.trans k2) ok2 r2⟩
      · exact h1.elim⟩
/-- xs[i] = v -/
def dSetL : D → D → D → GHp → (GHp → Prop) → Prop := fun o i v G Q => match o, i with
  | .ref p, .int k => match G p with
    | some (.lst ds) => match ixN ds.length k with
      | some j => Q (gupd G p (.lst (ds.set j v)))
      | none => False
    | _ => False
  | _, _ => False
theorem dSetL_inv {o i v : D} {G : GHp} {Q : GHp → Prop} (h : dSetL o i v G Q) : ∃ p n ds j, o = .ref p ∧ i = .int n ∧ G p = some (.lst ds) ∧ ixN ds.length n = some j ∧ Q (gupd G p (.lst (ds.set j v))) := by
  cases o with
  | ref p =>
    cases i with
    | int n =>
      unfold dSetL at h
      simp only at h
      cases eg : G p with
      | none => rw [eg] at h; exact h.elim
      | some o =>
        rw [eg] at h
        cases o with
        | lst ds =>
          simp only at h
          cases ej : ixN ds.length n with
          | none => rw [ej] at h; exact h.elim
          | some j => rw [ej] at h; exact ⟨p, n, ds, j, rfl, rfl, eg, ej, h⟩
        | _ => exact h.elim
    | _ => exact False.elim h
  | _ => exact False.elim h
def dSub (te to ti : DTE) : DTS := fun D δ G => te δ G fun v G1 => to δ G1 fun o G2 => ti δ G2 fun i G3 => dSetL o i v G3 fun G4 => D.nx δ G4
theorem ds_sub {o i : Expr} {to ti : DTE} {tpos : Pos} (he : DE X e te) (ho : DE X o to) (hi : DE X i ti)
    (ha : ∀ v, assign (.Subscript o i tpos) X.env v = (do
      let ov ← holding [v] (eval o X.env)
      let iv ← holding [v, ov] (eval i X.env)
      standAt tpos
      holding [v, ov, iv] (setItem ov iv v)
      release [v, ov, iv] []) := by intro _; rfl)
    (hs : swapsWithSole [.Subscript o i tpos] e pos.line X.env = pure false := by rfl) (hw : swappedStores [.Subscript o i tpos] e X.env = pure none := by rfl)
    (h1 : (assignEach [.Subscript o i tpos] X.env).map (·.2) = [assign (.Subscript o i tpos) X.env] := by rfl) : DS X (.Assign [.Subscript o i tpos] e pos) (dSub te to ti) :=
  PS.mono (ps_asg he (pg_sub ho hi set_list ha) hs hw h1) fun E σ H ⟨δ, G, Z, D0, ok, rs, h, l⟩ =>
    ⟨δ, G, Z, _, ok, rs, h, fun v G1 v' H1 h1 k1 ok1 r1 => ⟨δ, G1, Z, _, ok1, rs.mono k1.keep, h1, fun o G2 o' H2 h2 k2 ok2 r2 => ⟨δ, G2, Z, _, ok2, rs.mono (k1.trans k2).keep, h2, fun i G3 i' H3 h3 k3 ok3 r3 => by
      have q1 := r1.mono (k2.trans k3).keep
      have q2 := r2.mono k3.keep
      obtain ⟨p, n, ds, j, rfl, rfl, eg, ej, h3⟩ := dSetL_inv h3
      cases q2
      cases r3
      obtain ⟨hz, xs, hx, rx⟩ := ok3.ok p _ eg
      refine ⟨p, xs, n, j, rfl, rfl, hx, by rw [← rx.length]; exact ej, ?_⟩
      have kk : Kp H3 G3 Z (upd H3 p (.lst (xs.set j v'))) (gupd G3 p (.lst (ds.set j v))) := Kp.wrote eg hz
      have k13 := k1.trans (k2.trans k3)
      exact l.nx _ _ _ _ h3 (k13.trans kk) (ok3.wrote eg ⟨_, upd_same, ((rx.set q1 j)).mono kk.keep⟩) (rs.mono (k13.trans kk).keep)⟩⟩⟩
end
end DL
set_option Elab.async false
set_option linter.all false
set_option maxRecDepth 100000
set_option maxHeartbeats 1000000
/-! DL, part 5: built-in functions and methods. -/
namespace DL
open PySem PySem.Spec L2

/-! ### one and two arguments -/
def dR1 (r : D → GHp → DK → Prop) : DRC := fun ds G Q => match ds with
  | [x] => r x G Q
  | _ => False
def dR2 (r : D → D → GHp → DK → Prop) : DRC := fun ds G Q => match ds with
  | [x, y] => r x y G Q
  | _ => False
section
variable {X : Cx} {f : Value}
theorem dcall1 {r0 : List V → Hp → VK → Prop} {r : D → GHp → DK → Prop} (ho : CallR X f r0) (h : ∀ x v H G Z (Q : VK) (Q0 : DK), Ok X.K H G Z → Rep X.K (U H G Z) x v → r x G Q0 →
    (∀ d G' v' H', Q0 d G' → Kp H G Z H' G' → Ok X.K H' G' Z → Rep X.K (U H' G' Z) d v' → Q v' H') → r0 [v] H Q) : DCall X f (dR1 r) :=
  CallR.imp ho fun vs H Q ⟨ds, G, Z, Q0, ok, rs, q, k⟩ => by
    rcases rs with _ | ⟨r1, rs⟩
    · exact False.elim q
    rcases rs with _ | ⟨r2, rs⟩
    · exact h _ _ _ _ _ _ _ ok r1 q k
    · exact False.elim q
theorem dcall2 {r0 : List V → Hp → VK → Prop} {r : D → D → GHp → DK → Prop} (ho : CallR X f r0) (h : ∀ x y v u H G Z (Q : VK) (Q0 : DK), Ok X.K H G Z → Rep X.K (U H G Z) x v → Rep X.K (U H G Z) y u → r x y G Q0 →
    (∀ d G' v' H', Q0 d G' → Kp H G Z H' G' → Ok X.K H' G' Z → Rep X.K (U H' G' Z) d v' → Q v' H') → r0 [v, u] H Q) : DCall X f (dR2 r) :=
  CallR.imp ho fun vs H Q ⟨ds, G, Z, Q0, ok, rs, q, k⟩ => by
    rcases rs with _ | ⟨r1, rs⟩
    · exact False.elim q
    rcases rs with _ | ⟨r2, rs⟩
    · exact False.elim q
    rcases rs with _ | ⟨r3, rs⟩
    · exact h _ _ _ _ _ _ _ _ _ ok r1 r2 q k
    · exact False.elim q
/-! len -/
def dLenR (x : D) (G : GHp) (Q : DK) : Prop := match x with
  | .str y => y.length ≤ sizeLine ∧ Q (.int y.length) G
  | .tup ds => Q (.int ds.length) G
  | .scr ds => Q (.int ds.length) G
  | x => match lsOf G x with
    | some ds => Q (.int ds.length) G
    | none => False
theorem dcall_len : DCall X (.builtin "len") (dR1 dLenR) :=
  dcall1 call_len fun x v H G Z Q Q0 ok r h k => by
    have lst : (match lsOf G x with | some ds => Q0 (.int ds.length) G | none => False) → ∃ x n, [v] = [x] ∧ LenV X.K x H n ∧ Q (.int n) H := by
      intro h
      split at h
      · next ds e =>
        obtain ⟨a, vs, rfl, ha, ra⟩ := lsOf_of ok r e
        exact ⟨_, vs.length, rfl, .inl ⟨vs, SqL.of ha, rfl⟩, k _ _ _ _ h .refl ok (by rw [ra.length]; exact .int _)⟩
      · exact h.elim
    cases r with
    | str y => exact ⟨_, _, rfl, ⟨h.1, rfl⟩, k _ _ _ _ h.2 .refl ok (.int _)⟩
    | tup q s => exact ⟨_, _, rfl, .inr ⟨_, SqT.mono U_le q, rfl⟩, k _ _ _ _ h .refl ok (by rw [s.length]; exact .int _)⟩
    | scr q s => exact ⟨_, _, rfl, .inl ⟨_, SqL.mono U_le q, rfl⟩, k _ _ _ _ h .refl ok (by rw [s.length]; exact .int _)⟩
    | _ => exact lst h
/-! abs, int, max and min of two ints -/
def dAbsR (x : D) (G : GHp) (Q : DK) : Prop := match x with
  | .int i => Q (.int (i.natAbs : Int)) G
  | _ => False
theorem abs_ite (i : Int) : (if i < 0 then -i else i) = (i.natAbs : Int) := by split <;> omega
theorem dcall_abs : DCall X (.builtin "abs") (dR1 dAbsR) :=
  dcall1 call_abs fun x v H G Z Q Q0 ok r h k => by
    cases r with
    | int i => exact ⟨i, rfl, k _ _ _ _ h .refl ok (by rw [abs_ite]; exact .int _)⟩
    | _ => exact False.elim h
def dIntR (x : D) (G : GHp) (Q : DK) : Prop := match x with
  | .int i => Q (.int i) G
  | .bl b => Q (.int (if b then 1 else 0)) G
  | _ => False
theorem dcall_int : DCall X (.type "int") (dR1 dIntR) :=
  dcall1 call_int1 fun x v H G Z Q Q0 ok r h k => by
    cases r with
    | int i => exact .inl ⟨i, rfl, k _ _ _ _ h .refl ok (.int _)⟩
    | bl i => exact .inr ⟨i, rfl, k _ _ _ _ h .refl ok (.int _)⟩
    | _ => exact False.elim h
def dMax2R (x y : D) (G : GHp) (Q : DK) : Prop := match x, y with
  | .int i, .int j => Q (.int (max i j)) G
  | _, _ => False
def dMin2R (x y : D) (G : GHp) (Q : DK) : Prop := match x, y with
  | .int i, .int j => Q (.int (min i j)) G
  | _, _ => False
theorem max_ite (i j : Int) : (if j > i then j else i) = max i j := by split <;> omega
theorem min_ite (i j : Int) : (if j < i then j else i) = min i j := by split <;> omega
theorem dcall_max2 (hc : X.calm = true) : DCall X (.builtin "max") (dR2 dMax2R) :=
  dcall2 (call_max2 hc) fun x y v u H G Z Q Q0 ok r1 r2 h k => by
    cases r1 with
    | int i =>
      cases r2 with
      | int j => exact ⟨i, j, rfl, k _ _ _ _ h .refl ok (by rw [max_ite]; exact .int _)⟩
      | _ => exact False.elim h
    | _ => cases r2 <;> exact False.elim h
theorem dcall_min2 (hc : X.calm = true) : DCall X (.builtin "min") (dR2 dMin2R) :=
  dcall2 (call_min2 hc) fun x y v u H G Z Q Q0 ok r1 r2 h k => by
    cases r1 with
    | int i =>
      cases r2 with
      | int j => exact ⟨i, j, rfl, k _ _ _ _ h .refl ok (by rw [min_ite]; exact .int _)⟩
      | _ => exact False.elim h
    | _ => cases r2 <;> exact False.elim h
/-! lists of ints -/
def intsOf : List D → Option (List Int)
  | [] => some []
  | .int i :: r => (intsOf r).map (i :: ·)
  | _ :: _ => none
theorem intsOf_map : ∀ ns : List Int, intsOf (ns.map D.int) = some ns
  | [] => rfl
  | n :: r => by simp [intsOf, intsOf_map r]
theorem intsOf_eq : ∀ {ds : List D} {ns : List Int}, intsOf ds = some ns → ds = ns.map D.int
  | [], ns, e => by simp [intsOf] at e; subst e; rfl
  | d :: r, ns, e => by
    cases d with
    | int i =>
      simp only [intsOf] at e
      cases q : intsOf r with
      | none => rw [q] at e; simp at e
      | some ms =>
        rw [q] at e
        simp at e
        subst e
        rw [List.map_cons, ← intsOf_eq q]
    | _ => simp [intsOf] at e
def intsG (G : GHp) (x : D) : Option (List Int) := (lsOf G x).bind intsOf
theorem intsG_of {K : PySem.W.Frag} {H : Hp} {G : GHp} {Z : Addr → Bool} {x : D} {v : V} {ns : List Int} (ok : Ok K H G Z) (r : Rep K (U H G Z) x v) (h : intsG G x = some ns) : ∃ a, v = .ref a ∧ H a = some (.lst (ns.map V.int)) := by
  unfold intsG at h
  cases e : lsOf G x with
  | none => rw [e] at h; simp at h
  | some ds =>
    rw [e] at h
    simp only [Option.bind_some] at h
    obtain ⟨a, vs, rfl, ha, ra⟩ := lsOf_of ok r e
    rw [intsOf_eq h] at ra
    exact ⟨a, rfl, by rw [ha, ra.ints]⟩
def maxI : List Int → Int
  | [] => 0
  | [a] => a
  | a :: b :: r => max a (maxI (b :: r))
def minI : List Int → Int
  | [] => 0
  | [a] => a
  | a :: b :: r => min a (minI (b :: r))
theorem maxI_mem : ∀ {ns : List Int}, ns ≠ [] → maxI ns ∈ ns ∧ ∀ y ∈ ns, y ≤ maxI ns
  | [a], _ => by simp [maxI]
  | a :: b :: r, _ => by
    have ih := maxI_mem (ns := b :: r) (by simp)
    rw [maxI]
    refine ⟨?_, fun y hy => ?_⟩
    · by_cases h : a ≤ maxI (b :: r)
      · rw [Int.max_eq_right h]; exact List.mem_cons_of_mem _ ih.1
      · rw [Int.max_eq_left (by omega)]; exact List.mem_cons_self
    · rcases List.mem_cons.mp hy with rfl | hy
      · omega
      · have := ih.2 y hy; omega
theorem minI_mem : ∀ {ns : List Int}, ns ≠ [] → minI ns ∈ ns ∧ ∀ y ∈ ns, minI ns ≤ y
  | [a], _ => by simp [minI]
  | a :: b :: r, _ => by
    have ih := minI_mem (ns := b :: r) (by simp)
    rw [minI]
    refine ⟨?_, fun y hy => ?_⟩
    · by_cases h : a ≤ minI (b :: r)
      · rw [Int.min_eq_left h]; exact List.mem_cons_self
      · rw [Int.min_eq_right (by omega)]; exact List.mem_cons_of_mem _ ih.1
    · rcases List.mem_cons.mp hy with rfl | hy
      · omega
      · have := ih.2 y hy; omega
def dOnInts (C : List Int → Prop) (g : List Int → D) (x : D) (G : GHp) (Q : DK) : Prop := match intsG G x with
  | some ns => C ns ∧ Q (g ns) G
  | none => False
theorem dcall_sum (hc : X.calm = true) : DCall X (.builtin "sum") (dR1 (dOnInts (fun _ => True) fun ns => .int ns.sum)) :=
  dcall1 (cr_sum hc) fun x v H G Z Q Q0 ok r h k => by
    unfold dOnInts at h
    split at h
    · next ns e =>
      obtain ⟨a, rfl, ha⟩ := intsG_of ok r e
      exact ⟨a, ns, rfl, SqL.of ha, k _ _ _ _ h.2 .refl ok (.int _)⟩
    · exact h.elim
theorem dcall_maxL (hc : X.calm = true) : DCall X (.builtin "max") (dR1 (dOnInts (fun ns => ns ≠ []) fun ns => .int (maxI ns))) :=
  dcall1 (cr_max hc) fun x v H G Z Q Q0 ok r h k => by
    unfold dOnInts at h
    split at h
    · next ns e =>
      obtain ⟨a, rfl, ha⟩ := intsG_of ok r e
      refine ⟨a, ns, rfl, SqL.of ha, List.length_pos_iff.mpr h.1, fun m hm hle => ?_⟩
      have e : m = maxI ns := by
        have h1 := maxI_mem h.1
        have h2 := hle _ h1.1
        have h3 := h1.2 _ hm
        omega
      subst e
      exact k _ _ _ _ h.2 .refl ok (.int _)
    · exact h.elim
theorem dcall_minL (hc : X.calm = true) : DCall X (.builtin "min") (dR1 (dOnInts (fun ns => ns ≠ []) fun ns => .int (minI ns))) :=
  dcall1 (cr_min hc) fun x v H G Z Q Q0 ok r h k => by
    unfold dOnInts at h
    split at h
    · next ns e =>
      obtain ⟨a, rfl, ha⟩ := intsG_of ok r e
      refine ⟨a, ns, rfl, SqL.of ha, List.length_pos_iff.mpr h.1, fun m hm hle => ?_⟩
      have e : m = minI ns := by
        have h1 := minI_mem h.1
        have h2 := hle _ h1.1
        have h3 := h1.2 _ hm
        omega
      subst e
      exact k _ _ _ _ h.2 .refl ok (.int _)
    · exact h.elim
/-! sorted of ints -/
def insI (n : Int) : List Int → List Int
  | [] => [n]
  | a :: r => if n ≤ a then n :: a :: r else a :: insI n r
def sortI : List Int → List Int
  | [] => []
  | a :: r => insI a (sortI r)
theorem insI_perm (n : Int) : ∀ l, (insI n l).Perm (n :: l)
  | [] => .refl _
  | a :: r => by
    rw [insI]
    split
    · exact .refl _
    · exact (List.Perm.cons a (insI_perm n r)).trans (.swap _ _ _)
theorem insI_sorted (n : Int) : ∀ {l}, l.Pairwise (· ≤ ·) → (insI n l).Pairwise (· ≤ ·)
  | [], _ => by simp [insI]
  | a :: r, h => by
    rw [insI]
    obtain ⟨h1, h2⟩ := List.pairwise_cons.mp h
    split
    · next hn =>
      refine List.pairwise_cons.mpr ⟨fun y hy => ?_, h⟩
      rcases List.mem_cons.mp hy with rfl | hy
      · exact hn
      · have := h1 y hy; omega
    · next hn =>
      refine List.pairwise_cons.mpr ⟨fun y hy => ?_, insI_sorted n h2⟩
      rcases List.mem_cons.mp ((insI_perm n r).mem_iff.mp hy) with rfl | hy
      · omega
      · exact h1 y hy
theorem sortI_perm : ∀ l, (sortI l).Perm l
  | [] => .refl _
  | a :: r => (insI_perm a _).trans (.cons a (sortI_perm r))
theorem sortI_sorted : ∀ l, (sortI l).Pairwise (· ≤ ·)
  | [] => .nil
  | a :: r => insI_sorted a (sortI_sorted r)
theorem sorted_unique {l m : List Int} (hp : l.Perm m) (hl : l.Pairwise (· ≤ ·)) (hm : m.Pairwise (· ≤ ·)) : l = m := by
  induction l generalizing m with
  | nil => exact (List.nil_perm.mp hp).symm
  | cons a r ih =>
    cases m with
    | nil => exact absurd hp (by simp)
    | cons b s =>
      obtain ⟨h1, h2⟩ := List.pairwise_cons.mp hl
      obtain ⟨h3, h4⟩ := List.pairwise_cons.mp hm
      have e : a = b := by
        have ha : a ∈ b :: s := hp.mem_iff.mp List.mem_cons_self
        have hb : b ∈ a :: r := hp.mem_iff.mpr List.mem_cons_self
        rcases List.mem_cons.mp ha with ea | ha
        · exact ea
        · rcases List.mem_cons.mp hb with eb | hb
          · exact eb.symm
          · have := h3 a ha
            have := h1 b hb
            omega
      subst e
      rw [ih (List.Perm.cons_inv hp) h2 h4]
def dSortedR (m : Bool) (x : D) (G : GHp) (Q : DK) : Prop := match intsG G x with
  | some ns => lcEnd m ((sortI ns).map .int) G Q
  | none => False
theorem dcall_sorted (m : Bool) : DCall X (.builtin "sorted") (dR1 (dSortedR m)) :=
  dcall1 cr_sortedI fun x v H G Z Q Q0 ok r h k => by
    unfold dSortedR at h
    split at h
    · next ns e =>
      obtain ⟨a, rfl, ha⟩ := intsG_of ok r e
      refine ⟨a, ns, rfl, SqL.of ha, fun ns' p hp hs hn => ?_⟩
      have e : ns' = sortI ns := sorted_unique (hp.trans (sortI_perm ns).symm) hs (sortI_sorted ns)
      subst e
      exact lcEnd_of ok hn (Reps.of_ints _) h k
    · exact h.elim
/-! list(x), tuple(x) -/
def sqOf (G : GHp) : D → Option (List D)
  | .tup ds => some ds
  | x => lsOf G x
def dListR (m : Bool) (x : D) (G : GHp) (Q : DK) : Prop := match sqOf G x with
  | some ds => lcEnd m ds G Q
  | none => False
theorem dcall_list (m : Bool) : DCall X (.type "list") (dR1 (dListR m)) :=
  dcall1 call_list_of fun x v H G Z Q Q0 ok r h k => by
    have lst : (match lsOf G x with | some ds => lcEnd m ds G Q0 | none => False) → ∃ p ys, [v] = [V.ref p] ∧ (SqL X.K H p ys ∨ SqT X.K H p ys) ∧ ∀ l, H l = none → Q (.ref l) (upd H l (.lst ys)) := by
      intro h
      split at h
      · next ds e =>
        obtain ⟨a, vs, rfl, ha, ra⟩ := lsOf_of ok r e
        exact ⟨a, vs, rfl, .inl (SqL.of ha), fun p hp => lcEnd_of ok hp ra h k⟩
      · exact h.elim
    cases r with
    | tup q s => exact ⟨_, _, rfl, .inr (SqT.mono U_le q), fun p hp => lcEnd_of ok hp s h k⟩
    | _ => exact lst h
def dTupleR (x : D) (G : GHp) (Q : DK) : Prop := match sqOf G x with
  | some ds => Q (.tup ds) G
  | none => False
theorem dcall_tuple : DCall X (.type "tuple") (dR1 dTupleR) :=
  dcall1 call_tuple_of fun x v H G Z Q Q0 ok r h k => by
    have lst : (match lsOf G x with | some ds => Q0 (.tup ds) G | none => False) → ∃ p ys, [v] = [V.ref p] ∧ ((SqL X.K H p ys ∧ ∀ l, H l = none → Q (.ref l) (upd H l (.tup ys))) ∨ (SqT X.K H p ys ∧ Q (.ref p) H)) := by
      intro h
      split at h
      · next ds e =>
        obtain ⟨a, vs, rfl, ha, ra⟩ := lsOf_of ok r e
        exact ⟨a, vs, rfl, .inl ⟨SqL.of ha, fun p hp => k _ _ _ _ h (Kp.laid hp) (ok.laid hp) (.tup (SqT.of (U_laid ok hp)) (ra.mono (Kp.laid hp).keep))⟩⟩
      · exact h.elim
    cases r with
    | tup q s => exact ⟨_, _, rfl, .inr ⟨SqT.mono U_le q, k _ _ _ _ h .refl ok (.tup q s)⟩⟩
    | _ => exact lst h
/-! all, any of bools -/
def bsOf : List D → Option (List Bool)
  | [] => some []
  | .bl i :: r => (bsOf r).map (i :: ·)
  | _ :: _ => none
theorem bsOf_map : ∀ ns : List Bool, bsOf (ns.map D.bl) = some ns
  | [] => rfl
  | n :: r => by simp [bsOf, bsOf_map r]
theorem bsOf_eq : ∀ {ds : List D} {ns : List Bool}, bsOf ds = some ns → ds = ns.map D.bl
  | [], ns, e => by simp [bsOf] at e; subst e; rfl
  | d :: r, ns, e => by
    cases d with
    | bl i =>
      simp only [bsOf] at e
      cases q : bsOf r with
      | none => rw [q] at e; simp at e
      | some ms =>
        rw [q] at e
        simp at e
        subst e
        rw [List.map_cons, ← bsOf_eq q]
    | _ => simp [bsOf] at e
def dOnBls (g : List Bool → Bool) (x : D) (G : GHp) (Q : DK) : Prop := match (lsOf G x).bind bsOf with
  | some ns => Q (.bl (g ns)) G
  | none => False
theorem bls_of {K : PySem.W.Frag} {H : Hp} {G : GHp} {Z : Addr → Bool} {x : D} {v : V} {ns : List Bool} (ok : Ok K H G Z) (r : Rep K (U H G Z) x v) (h : (lsOf G x).bind bsOf = some ns) : ∃ a, v = .ref a ∧ H a = some (.lst (ns.map V.bl)) := by
  cases e : lsOf G x with
  | none => rw [e] at h; simp at h
  | some ds =>
    rw [e] at h
    simp only [Option.bind_some] at h
    obtain ⟨a, vs, rfl, ha, ra⟩ := lsOf_of ok r e
    rw [bsOf_eq h] at ra
    exact ⟨a, rfl, by rw [ha, ra.bls]⟩
theorem dcall_all (hc : X.calm = true) : DCall X (.builtin "all") (dR1 (dOnBls fun bs => bs.all id)) :=
  dcall1 (cr_all hc) fun x v H G Z Q Q0 ok r h k => by
    unfold dOnBls at h
    split at h
    · next ns e =>
      obtain ⟨a, rfl, ha⟩ := bls_of ok r e
      exact ⟨a, ns, rfl, SqL.of ha, k _ _ _ _ h .refl ok (.bl _)⟩
    · exact h.elim
theorem dcall_any (hc : X.calm = true) : DCall X (.builtin "any") (dR1 (dOnBls fun bs => bs.any id)) :=
  dcall1 (cr_any hc) fun x v H G Z Q Q0 ok r h k => by
    unfold dOnBls at h
    split at h
    · next ns e =>
      obtain ⟨a, rfl, ha⟩ := bls_of ok r e
      exact ⟨a, ns, rfl, SqL.of ha, k _ _ _ _ h .refl ok (.bl _)⟩
    · exact h.elim
/-! isinstance -/
def tgOf (G : GHp) : D → Option Tg
  | .non => some .non
  | .bl _ => some .bool
  | .int _ => some .int
  | .str _ => some .str
  | .tup _ => some .tup
  | .lst _ => some .lst
  | .ref a => match G a with
    | some (.lst _) => some .lst
    | some (.dK _) => some .dct
    | _ => none
  | _ => none
def isA : Tg → Tg → Bool
  | .bool, .int => true
  | a, b => decide (a = b)
theorem kit_isA : ∀ a c : Tg, kitB a.name c.name = some (isA a c) := by
  intro a c
  cases a <;> cases c <;> decide +kernel
theorem tg_of {K : PySem.W.Frag} {H : Hp} {G : GHp} {Z : Addr → Bool} {x : D} {v : V} {t : Tg} (ok : Ok K H G Z) (r : Rep K (U H G Z) x v) (h : tgOf G x = some t) : TyX K H v (.type t.name) := by
  cases r with
  | non => cases h; exact .base .non
  | bl b => cases h; exact .base (.bl b)
  | int b => cases h; exact .base (.int b)
  | str b => cases h; exact .base (.str b)
  | ty b => cases h
  | scr q s => cases h
  | lst q s => cases h; exact .base (.lst (U_le _ _ q))
  | tup q s =>
    cases h
    rcases q with (q | ⟨o, q⟩) | ⟨o, its, n, q, c, _⟩
    · exact .base (.tup (U_le _ _ q))
    · exact .fTuple (U_le _ _ q)
    · exact .kTuple q c
  | ref a =>
    unfold tgOf at h
    simp only at h
    split at h
    · next ds e =>
      cases h
      obtain ⟨_, xs, h1, _⟩ := ok.ok a _ e
      exact .base (.lst h1)
    · next ds e =>
      cases h
      obtain ⟨_, xs, h1, _⟩ := ok.ok a _ e
      exact .base (.dK h1)
    · cases h
def dIsiR (x y : D) (G : GHp) (Q : DK) : Prop := match tgOf G x, y with
  | some t, .ty c => Q (.bl (isA t c)) G
  | _, _ => False
theorem dcall_isi : DCall X (.builtin "isinstance") (dR2 dIsiR) :=
  dcall2 call_isi fun x y v u H G Z Q Q0 ok r1 r2 h k => by
    unfold dIsiR at h
    split at h
    · next t c e =>
      cases r2
      exact ⟨v, _, _, _, _, rfl, .ty _, tg_of ok r1 e, kit_ty (kit_isA t c), k _ _ _ _ h .refl ok (.bl _)⟩
    · exact h.elim
end
/-- isinstance(x, (c1, c2, ..)) with written classes -/
def tysT (cs : List Tg) : TE := fun _ H Q => ∀ p, H p = none → Q (.ref p) (upd H p (.tup (cs.map fun c => V.ty c.name)))
def dIsiT (cs : List Tg) (te : DTE) : DTE := fun δ G Q => te δ G fun x G1 => match tgOf G1 x with
  | some t => Q (.bl (cs.any fun c => isA t c)) G1
  | none => False
theorem kitAny_of {K : PySem.W.Frag} {t : Tg} : ∀ cs : List Tg, PySem.W.kitAny K (.type t.name) (cs.map fun c => Value.type c.name) = some (cs.any fun c => isA t c)
  | [] => kitAny_nil
  | c :: cs => by
    refine kitAny_cons (kit_ty (kit_isA t c)) (fun e => ?_) (fun e => ?_)
    · rw [kitAny_of cs, List.any_cons, e, Bool.false_or]
    · rw [List.any_cons, e, Bool.true_or]
section
variable {X : Cx} {p pos : Pos} {e tt : Expr} {te : DTE} {cs : List Tg}
theorem clsv_all : ∀ cs : List Tg, Paired ClsV (cs.map fun c => V.ty c.name) (cs.map fun c => Value.type c.name)
  | [] => .nil
  | c :: cs => .cons (.ty _) (clsv_all cs)
theorem de_isiT (he : DE X e te) (ht : PE X tt (tysT cs)) (hg : Gl X "isinstance") (hm : X.mg "isinstance" = none)
    (hs : starEach [e, tt] X.env = (false, eval e X.env) :: starEach [tt] X.env := by rfl) (hs2 : starEach [tt] X.env = (false, eval tt X.env) :: starEach [] X.env := by rfl) (hpl : (backTo pos (starEach [tt] X.env)).any (·.1) = false := by rfl) :
    DE X (.Call (.Name "isinstance" p) [e, tt] [] pos) (dIsiT cs te) :=
  PE.mono (pe_callB call_isiT hg hm (by decide +kernel) (pa_cons he (pa_cons ht pa_nil hs2) hs) (by decide) (by decide) hs hpl) fun σ H Q ⟨δ, G, Z, Q0, ok, rs, h, k⟩ =>
    ⟨δ, G, Z, _, ok, rs, h, fun x G1 v H1 h1 k1 ok1 r1 => fun p hp => by
      have h1 : (match tgOf G1 x with | some t => Q0 (.bl (cs.any fun c => isA t c)) G1 | none => False) := h1
      split at h1
      · next t e =>
        have kl : Kp H1 G1 Z (upd H1 p (.tup (cs.map fun c => V.ty c.name))) G1 := Kp.laid hp
        have okl := ok1.laid (o := .tup (cs.map fun c => V.ty c.name)) hp
        exact ⟨v, p, _, _, _, _, rfl, upd_same, clsv_all cs, tg_of okl (r1.mono kl.keep) e, kitAny_of cs, k _ _ _ _ h1 (k1.trans kl) okl (.bl _)⟩
      · exact h1.elim⟩
/-- the tuple of written classes -/
theorem pa_tys : ∀ {es : List Expr} {cs : List Tg}, PA X es (fun _ H Q => Q (cs.map fun c => V.ty c.name) H) → cs.length ≤ sizeLine → ∀ {x1 : Nat} {pos : Pos}, PE X (.Tuple es x1 pos) (tysT cs) :=
  fun h hz _ _ => PE.mono (pe_tup h) fun σ H Q q => ⟨by rw [List.length_map]; exact hz, q⟩
theorem pa_ty0 : PA X [] (fun _ H Q => Q (([] : List Tg).map fun c => V.ty c.name) H) := pa_nil
theorem pa_tyc {es : List Expr} {c : Tg} {cs : List Tg} (h : PE X e (tC (.ty c.name))) (hr : PA X es (fun _ H Q => Q (cs.map fun c => V.ty c.name) H)) (hs : starEach (e :: es) X.env = (false, eval e X.env) :: starEach es X.env := by rfl) :
    PA X (e :: es) (fun _ H Q => Q ((c :: cs).map fun c => V.ty c.name) H) := pa_cons h hr hs
end

/-! ### in, not in -/
def flatD : D → Bool
  | .non => true
  | .bl _ => true
  | .int _ => true
  | .str _ => true
  | _ => false
def eqD : D → D → Bool
  | .non, .non => true
  | .bl a, .bl b => a == b
  | .bl a, .int b => (if a then 1 else 0) == b
  | .int a, .bl b => a == (if b then 1 else 0)
  | .int a, .int b => a == b
  | .str a, .str b => a == b
  | _, _ => false
theorem Rep.flat {K : PySem.W.Frag} {W : Hp} {x : D} {v : V} (r : Rep K W x v) (h : flatD x = true) : flatV v = true := by cases r <;> first | rfl | (simp [flatD] at h)
theorem Reps.flat {K : PySem.W.Frag} {W : Hp} : ∀ {ds : List D} {vs : List V}, Reps K W ds vs → ds.all flatD = true → vs.all flatV = true
  | _, _, .nil, _ => rfl
  | _, _, .cons h r, e => by
    rw [List.all_cons, Bool.and_eq_true] at e ⊢
    exact ⟨h.flat e.1, Reps.flat r e.2⟩
theorem Rep.eqD {K : PySem.W.Frag} {W : Hp} {x y : D} {v u : V} (r : Rep K W x v) (q : Rep K W y u) (hx : flatD x = true) (hy : flatD y = true) : eqV v u = DL.eqD x y := by
  cases r <;> cases q <;> first | rfl | (simp [flatD] at hx) | (simp [flatD] at hy)
def inD (x : D) (ds : List D) : Bool := ds.any fun y => eqD y x
theorem inD_of {K : PySem.W.Frag} {W : Hp} {x : D} {v : V} (r : Rep K W x v) (hx : flatD x = true) : ∀ {ds : List D} {vs : List V}, Reps K W ds vs → ds.all flatD = true → inV v vs = inD x ds
  | _, _, .nil, _ => rfl
  | _, _, .cons h q, e => by
    rw [List.all_cons, Bool.and_eq_true] at e
    have ih := inD_of r hx q e.2
    unfold inV inD at *
    rw [List.any_cons, List.any_cons, ih, h.eqD r e.1 hx]
/-- flat things in a list or tuple; one sign in a text -/
def dInR (neg : Bool) : DR2 := fun x y G Q => match y with
  | .str z => ∃ c, x = .str ⟨#[c]⟩ ∧ Q (.bl (if neg then !decide (c ∈ z.cps.toList) else decide (c ∈ z.cps.toList))) G
  | y => match sqOf G y with
    | some ds => flatD x = true ∧ ds.all flatD = true ∧ Q (.bl (if neg then !inD x ds else inD x ds)) G
    | none => False
section
variable {X : Cx}
theorem in_flat {K : PySem.W.Frag} {H : Hp} {G : GHp} {Z : Addr → Bool} {x y : D} {v u : V} {neg : Bool} {Q : VK} {Q0 : DK} (ok : Ok K H G Z) (r1 : Rep K (U H G Z) x v) (r2 : Rep K (U H G Z) y u)
    (h : match sqOf G y with
      | some ds => flatD x = true ∧ ds.all flatD = true ∧ Q0 (.bl (if neg then !inD x ds else inD x ds)) G
      | none => False) (k : ∀ d G' v' H', Q0 d G' → Kp H G Z H' G' → Ok K H' G' Z → Rep K (U H' G' Z) d v' → Q v' H') : rIn K neg v u H Q := by
  have lst : (match lsOf G y with
      | some ds => flatD x = true ∧ ds.all flatD = true ∧ Q0 (.bl (if neg then !inD x ds else inD x ds)) G
      | none => False) → rIn K neg v u H Q := by
    intro h
    split at h
    · next ds e =>
      obtain ⟨a, vs, rfl, ha, ra⟩ := lsOf_of ok r2 e
      exact ⟨a, vs, rfl, .inl (SqL.of ha), r1.flat h.1, ra.flat h.2.1, k _ _ _ _ h.2.2 .refl ok (by rw [inD_of r1 h.1 ra h.2.1]; exact .bl _)⟩
    · exact h.elim
  cases r2 with
  | tup q s => exact ⟨_, _, rfl, .inr (SqT.mono U_le q), r1.flat h.1, s.flat h.2.1, k _ _ _ _ h.2.2 .refl ok (by rw [inD_of r1 h.1 s h.2.1]; exact .bl _)⟩
  | _ => exact lst h
theorem dop_in : DOp X (compareOp .In) (dInR false) :=
  OpR.imp (OpR.or op_in_sign op_in_seq) fun v u H Q ⟨x, y, G, Z, Q0, ok, r1, r2, h, k⟩ => by
    cases r2 with
    | str z =>
      obtain ⟨c, rfl, q⟩ := h
      cases r1
      exact .inl ⟨c, z, rfl, rfl, k _ _ _ _ q .refl ok (.bl _)⟩
    | non => exact .inr (in_flat ok r1 .non h k)
    | bl b => exact .inr (in_flat ok r1 (.bl b) h k)
    | int b => exact .inr (in_flat ok r1 (.int b) h k)
    | ty b => exact .inr (in_flat ok r1 (.ty b) h k)
    | scr q s => exact .inr (in_flat ok r1 (.scr q s) h k)
    | ref b => exact .inr (in_flat ok r1 (.ref b) h k)
    | tup q s => exact .inr (in_flat ok r1 (.tup q s) h k)
    | lst q s => exact .inr (in_flat ok r1 (.lst q s) h k)
theorem dop_notIn : DOp X (compareOp .NotIn) (dInR true) :=
  OpR.imp (OpR.or op_notIn_sign op_notIn_seq) fun v u H Q ⟨x, y, G, Z, Q0, ok, r1, r2, h, k⟩ => by
    cases r2 with
    | str z =>
      obtain ⟨c, rfl, q⟩ := h
      cases r1
      exact .inl ⟨c, z, rfl, rfl, k _ _ _ _ q .refl ok (.bl _)⟩
    | non => exact .inr (in_flat ok r1 .non h k)
    | bl b => exact .inr (in_flat ok r1 (.bl b) h k)
    | int b => exact .inr (in_flat ok r1 (.int b) h k)
    | ty b => exact .inr (in_flat ok r1 (.ty b) h k)
    | scr q s => exact .inr (in_flat ok r1 (.scr q s) h k)
    | ref b => exact .inr (in_flat ok r1 (.ref b) h k)
    | tup q s => exact .inr (in_flat ok r1 (.tup q s) h k)
    | lst q s => exact .inr (in_flat ok r1 (.lst q s) h k)
end

/-! ### methods of lists -/
abbrev DMt := D → List D → GHp → DK → Prop
def cMt (K : PySem.W.Frag) (r : DMt) : V → List V → Hp → VK → Prop := fun v us H Q => ∃ (x : D) (ds : List D) (G : GHp) (Z : Addr → Bool) (Q0 : DK), Ok K H G Z ∧ Rep K (U H G Z) x v ∧ Reps K (U H G Z) ds us ∧ r x ds G Q0 ∧
  ∀ d G' v' H', Q0 d G' → Kp H G Z H' G' → Ok K H' G' Z → Rep K (U H' G' Z) d v' → Q v' H'
theorem MtR.imp {X : Cx} {id : String} {r r' : V → List V → Hp → VK → Prop} (ho : MtR X id r) (h : ∀ x xs H Q, r' x xs H Q → r x xs H Q) : MtR X id r' := fun pins s σ H x xs v us Q I rx rs q => ho pins s σ H x xs v us Q I rx rs (h x xs H Q q)
/-- the receiver is a list -/
def dMtL (r : DMt) (to : DTE) (t : DTA) : DTE := fun δ G Q => to δ G fun x G1 => match lsOf G1 x with
  | some _ => t δ G1 fun ds G2 => r x ds G2 Q
  | none => False
section
variable {X : Cx} {o e : Expr} {es : List Expr} {to : DTE} {t : DTA} {name : Str} {apos cpos : Pos} {id : String} {r : DMt}
theorem de_mtL (slot : Slot "list" name id) (hty : typeOf (.builtin id) = pure (.type "method_descriptor")) (hm : MtR X id (cMt X.K r)) (ho : DE X o to) (ha : DA X (e :: es) t)
    (hbase : attributeBase o name X.env (eval o X.env) = eval o X.env := by rfl)
    (hfew : ((backTo cpos (starEach (e :: es) X.env)).all (fun x => !x.1) && (backToKw cpos (keywordEach [] X.env)).all (fun x => x.1.isSome)
      && decide ((e :: es).length + ([] : List Keyword).length + (if ([] : List Keyword).isEmpty then 0 else 1) < 30)) = true := by rfl)
    (hline : (apos.endLine == cpos.line) = true := by rfl) (hs : starEach (e :: es) X.env = (false, eval e X.env) :: starEach es X.env := by rfl) (hplain : (backTo cpos (starEach es X.env)).any (·.1) = false := by rfl) :
    DE X (.Call (.Attribute o name apos) (e :: es) [] cpos) (dMtL r to t) :=
  PE.mono (pe_bm PySem.F.plainAttrs_list slot hty hm ho ha hbase hfew hline hs hplain) fun σ H Q ⟨δ, G, Z, Q0, ok, rs, h, k⟩ =>
    ⟨δ, G, Z, _, ok, rs, h, fun x G1 v H1 h1 k1 ok1 r1 => by
      have h1 : (match lsOf G1 x with | some _ => t δ G1 fun ds G2 => r x ds G2 Q0 | none => False) := h1
      split at h1
      · next ds0 e =>
        obtain ⟨a, vs, rfl, ha, ra⟩ := lsOf_of ok1 r1 e
        exact ⟨.inl ⟨rfl, vs, SqL.of ha⟩, δ, G1, Z, _, ok1, rs.mono k1.keep, h1, fun ds G2 us H2 h2 k2 ok2 r2 => ⟨x, ds, G2, Z, Q0, ok2, r1.mono k2.keep, r2, h2, fun d G' v' H' q k3 ok3 r3 => k _ _ _ _ q (k1.trans (k2.trans k3)) ok3 r3⟩⟩
      · exact h1.elim⟩
theorem de_mtL0 (slot : Slot "list" name id) (hty : typeOf (.builtin id) = pure (.type "method_descriptor")) (hm : MtR X id (cMt X.K r)) (ho : DE X o to)
    (hbase : attributeBase o name X.env (eval o X.env) = eval o X.env := by rfl) (hline : (apos.endLine == cpos.line) = true := by rfl) : DE X (.Call (.Attribute o name apos) [] [] cpos) (dMtL r to dNil) :=
  PE.mono (pe_bm0 PySem.F.plainAttrs_list slot hty hm ho hbase hline) fun σ H Q ⟨δ, G, Z, Q0, ok, rs, h, k⟩ =>
    ⟨δ, G, Z, _, ok, rs, h, fun x G1 v H1 h1 k1 ok1 r1 => by
      have h1 : (match lsOf G1 x with | some _ => r x [] G1 Q0 | none => False) := h1
      split at h1
      · next ds0 e =>
        obtain ⟨a, vs, rfl, ha, ra⟩ := lsOf_of ok1 r1 e
        exact ⟨.inl ⟨rfl, vs, SqL.of ha⟩, x, [], G1, Z, Q0, ok1, r1, .nil, h1, fun d G' v' H' q k3 ok3 r3 => k _ _ _ _ q (k1.trans k3) ok3 r3⟩
      · exact h1.elim⟩
/-- the tracked list itself -/
def onL (x : D) (G : GHp) (f : Addr → List D → Prop) : Prop := match x with
  | .ref a => match G a with
    | some (.lst ds) => f a ds
    | _ => False
  | _ => False
theorem onL_inv {x : D} {G : GHp} {f : Addr → List D → Prop} (h : onL x G f) : ∃ a ds, x = .ref a ∧ G a = some (.lst ds) ∧ f a ds := by
  cases x with
  | ref a =>
    unfold onL at h
    simp only at h
    cases e : G a with
    | none => rw [e] at h; exact h.elim
    | some o =>
      rw [e] at h
      cases o with
      | lst ds => exact ⟨a, ds, rfl, e, h⟩
      | _ => exact h.elim
  | _ => exact False.elim h
theorem wrote_l {K : PySem.W.Frag} {H : Hp} {G : GHp} {Z : Addr → Bool} {a : Addr} {ds ds' : List D} {vs' : List V} (ok : Ok K H G Z) (e : G a = some (.lst ds)) (r : Reps K (U H G Z) ds' vs') :
    Kp H G Z (upd H a (.lst vs')) (gupd G a (.lst ds')) ∧ Ok K (upd H a (.lst vs')) (gupd G a (.lst ds')) Z := by
  have hz := (ok.ok a _ e).1
  have kk : Kp H G Z (upd H a (.lst vs')) (gupd G a (.lst ds')) := Kp.wrote e hz
  exact ⟨kk, ok.wrote e ⟨_, upd_same, r.mono kk.keep⟩⟩
def dAppend : DMt := fun x ds G Q => match ds with
  | [y] => onL x G fun a xs => xs.length < sizeLine ∧ Q .non (gupd G a (.lst (xs ++ [y])))
  | _ => False
theorem dmt_append : MtR X "list.append" (cMt X.K dAppend) :=
  MtR.imp mt_append fun v us H Q ⟨x, ds, G, Z, Q0, ok, r, rs, h, k⟩ => by
    rcases rs with _ | ⟨r1, rs⟩
    · exact False.elim h
    rcases rs with _ | ⟨r2, rs⟩
    · obtain ⟨a, xs, rfl, e, h1, h2⟩ := onL_inv h
      cases r
      obtain ⟨hz, vs, hv, rv⟩ := ok.ok a _ e
      obtain ⟨kk, ok'⟩ := wrote_l ok e (rv.append (.cons r1 .nil))
      exact ⟨a, vs, _, rfl, rfl, hv, by rw [← rv.length]; exact h1, k _ _ _ _ h2 kk ok' .non⟩
    · exact False.elim h
def dExtend : DMt := fun x ds G Q => match ds with
  | [y] => onL x G fun a xs => match lsOf G y with
    | some zs => xs.length + zs.length ≤ sizeLine ∧ Q .non (gupd G a (.lst (xs ++ zs)))
    | none => False
  | _ => False
theorem dmt_extend : MtR X "list.extend" (cMt X.K dExtend) :=
  MtR.imp mt_extend fun v us H Q ⟨x, ds, G, Z, Q0, ok, r, rs, h, k⟩ => by
    rcases rs with _ | ⟨r1, rs⟩
    · exact False.elim h
    rcases rs with _ | ⟨r2, rs⟩
    · obtain ⟨a, xs, rfl, e, h⟩ := onL_inv h
      split at h
      · next zs ez =>
        cases r
        obtain ⟨hz, vs, hv, rv⟩ := ok.ok a _ e
        obtain ⟨b, us, rfl, hb, rb⟩ := lsOf_of ok r1 ez
        obtain ⟨kk, ok'⟩ := wrote_l ok e (rv.append rb)
        exact ⟨a, b, vs, us, rfl, rfl, hv, hb, by rw [← rv.length, ← rb.length]; exact h.1, k _ _ _ _ h.2 kk ok' .non⟩
      · exact h.elim
    · exact False.elim h
/-- xs.pop(), xs.pop(i) -/
def dPop : DMt := fun x ds G Q => match ds with
  | [] => onL x G fun a xs => match xs[xs.length - 1]? with
    | some y => Q y (gupd G a (.lst xs.dropLast))
    | none => False
  | [.int i] => onL x G fun a xs => match ixN xs.length i with
    | some j => match xs[j]? with
      | some y => -(2 ^ 63) ≤ i ∧ i < 2 ^ 63 ∧ Q y (gupd G a (.lst (xs.eraseIdx j)))
      | none => False
    | none => False
  | _ => False
theorem Reps.eraseIdx {K : PySem.W.Frag} {W : Hp} : ∀ {ds : List D} {vs : List V} (i : Nat), Reps K W ds vs → Reps K W (ds.eraseIdx i) (vs.eraseIdx i)
  | _, _, _, .nil => .nil
  | _, _, 0, .cons h r => r
  | _, _, i + 1, .cons h r => .cons h (Reps.eraseIdx i r)
theorem Reps.dropLast {K : PySem.W.Frag} {W : Hp} {ds : List D} {vs : List V} (r : Reps K W ds vs) : Reps K W ds.dropLast vs.dropLast := by
  rw [List.dropLast_eq_take, List.dropLast_eq_take, r.length]
  exact r.take _
theorem dmt_pop : MtR X "list.pop" (cMt X.K dPop) :=
  MtR.imp (MtR.or mt_pop mt_popAt) fun v us H Q ⟨x, ds, G, Z, Q0, ok, r, rs, h, k⟩ => by
    rcases rs with _ | ⟨r1, rs⟩
    · obtain ⟨a, xs, rfl, e, h⟩ := onL_inv h
      split at h
      · next y ey =>
        cases r
        obtain ⟨hz, vs, hv, rv⟩ := ok.ok a _ e
        obtain ⟨w, e1, r1⟩ := rv.get ey
        obtain ⟨kk, ok'⟩ := wrote_l ok e rv.dropLast
        exact .inl ⟨a, vs, w, rfl, rfl, hv, by rw [← rv.length]; exact e1, k _ _ _ _ h kk ok' (r1.mono kk.keep)⟩
      · exact h.elim
    rcases rs with _ | ⟨r2, rs⟩
    · cases r1 with
      | int i =>
        obtain ⟨a, xs, rfl, e, h⟩ := onL_inv h
        split at h
        · next j ej =>
          split at h
          · next y ey =>
            cases r
            obtain ⟨hz, vs, hv, rv⟩ := ok.ok a _ e
            obtain ⟨w, e1, r1⟩ := rv.get ey
            obtain ⟨kk, ok'⟩ := wrote_l ok e (rv.eraseIdx j)
            obtain ⟨s1, s2, s3, s4⟩ := ixN_seq ej
            exact .inr ⟨a, vs, i, j, w, rfl, rfl, hv, h.1, h.2.1, by rw [← rv.length]; exact s1, e1, k _ _ _ _ h.2.2 kk ok' (r1.mono kk.keep)⟩
          · exact h.elim
        · exact h.elim
      | _ => exact False.elim h
    · cases r1 <;> exact False.elim h
def dReverse : DMt := fun x ds G Q => match ds with
  | [] => onL x G fun a xs => Q .non (gupd G a (.lst xs.reverse))
  | _ => False
theorem dmt_reverse : MtR X "list.reverse" (cMt X.K dReverse) :=
  MtR.imp mt_reverse fun v us H Q ⟨x, ds, G, Z, Q0, ok, r, rs, h, k⟩ => by
    rcases rs with _ | ⟨r1, rs⟩
    · obtain ⟨a, xs, rfl, e, h⟩ := onL_inv h
      cases r
      obtain ⟨hz, vs, hv, rv⟩ := ok.ok a _ e
      obtain ⟨kk, ok'⟩ := wrote_l ok e rv.reverse
      exact ⟨a, vs, rfl, rfl, hv, k _ _ _ _ h kk ok' .non⟩
    · exact False.elim h
def dClear : DMt := fun x ds G Q => match ds with
  | [] => onL x G fun a _ => Q .non (gupd G a (.lst []))
  | _ => False
theorem dmt_clear : MtR X "list.clear" (cMt X.K dClear) :=
  MtR.imp mt_clear fun v us H Q ⟨x, ds, G, Z, Q0, ok, r, rs, h, k⟩ => by
    rcases rs with _ | ⟨r1, rs⟩
    · obtain ⟨a, xs, rfl, e, h⟩ := onL_inv h
      cases r
      obtain ⟨hz, vs, hv, rv⟩ := ok.ok a _ e
      obtain ⟨kk, ok'⟩ := wrote_l ok e .nil
      exact ⟨a, vs, rfl, rfl, hv, k _ _ _ _ h kk ok' .non⟩
    · exact False.elim h
end
end DL
set_option Elab.async false
set_option linter.all false
set_option maxRecDepth 100000
set_option maxHeartbeats 1000000
/-! DL, part 6: keywords alone, more statements, defs by their number of parameters, the law's end. -/
namespace DL
open PySem PySem.Spec L2

/-! ### keywords -/
/-- the values in the parameters' order -/
def kperm {α : Type} (ix : List Nat) (us ws : List α) : List α := ix.filterMap fun i => (us ++ ws)[i]?
theorem Reps.pick {K : PySem.W.Frag} {W : Hp} {ds : List D} {vs : List V} (r : Reps K W ds vs) : ∀ ix : List Nat, Reps K W (ix.filterMap fun i => ds[i]?) (ix.filterMap fun i => vs[i]?)
  | [] => .nil
  | i :: ix => by
    have ih := Reps.pick r ix
    rw [List.filterMap_cons, List.filterMap_cons]
    cases e : ds[i]? with
    | none =>
      have e2 : vs[i]? = none := by
        rw [List.getElem?_eq_none_iff] at e ⊢
        rw [← r.length]; exact e
      rw [e2]; exact ih
    | some d =>
      obtain ⟨v, e2, r2⟩ := r.get e
      rw [e2]; exact .cons r2 ih
theorem Reps.kperm {K : PySem.W.Frag} {W : Hp} (ix : List Nat) {ds es : List D} {vs us : List V} (r : Reps K W ds vs) (q : Reps K W es us) : Reps K W (DL.kperm ix ds es) (DL.kperm ix vs us) := (r.append q).pick ix
theorem Vals.pick {vs : List V} {us : List Value} (r : Vals vs us) : ∀ ix : List Nat, Vals (ix.filterMap fun i => vs[i]?) (ix.filterMap fun i => us[i]?)
  | [] => .nil
  | i :: ix => by
    have ih := Vals.pick r ix
    rw [List.filterMap_cons, List.filterMap_cons]
    cases e : vs[i]? with
    | none => rw [r.none_of e]; exact ih
    | some d =>
      obtain ⟨v, e2, r2⟩ := r.get e
      rw [e2]; exact .cons r2 ih
/-- a plain def called with keywords -/
theorem kbn_of {K : PySem.W.Frag} {fd : FuncData} {ps ks : List Str} {n : Nat} (ix : List Nat) (h : ∀ (s : Shared) (us ws : List Value), us.length = n → ws.length = ks.length → BindsTo s fd ⟨us, ks.zip ws⟩ (ps.zip (kperm ix us ws))) : KBn K fd ps n ks (kperm ix) (kperm ix) :=
  ⟨fun s us ws _ h1 h2 => h s us ws h1 h2, fun r z => Vals.pick (Vals.append r z) ix⟩
section
variable {X : Cx} {CX : CXT} {k : Nat} {f C : Addr} {fd : FuncData} {ps ks : List Str} {E : XK} {x m : Str} {p pos apos : Pos} {e o : Expr} {es : List Expr} {kws : List Keyword}
theorem pe_callN0 {sp : Sp} {tk : TA} {g : List Value → List Value → List Value} {gV : List V → List V → List V} (F : FnOk X.prog X.w X.K X.mg X.base CX k f fd ps sp) (hr : Room k X.A) (hg : Gl X x) (hm : X.mg x = some (.ref f)) (hk : PySem.W.keepIn X.K (.ref f) = true) (hb : KBn X.K fd ps 0 ks g gV) (hx : Passes CX X E)
    (hkw : PK X kws tk) (hall : (backToKw pos (keywordEach kws X.env)).all (·.1.isSome) = true := by rfl) (hks : (backToKw pos (keywordEach kws X.env)).filterMap (·.1) = ks := by rfl)
    (hdb : (x == ("__debug__" : Str)) = false := by decide) (hpl : ((backTo pos (starEach [] X.env)).any (·.1) || (backToKw pos (keywordEach kws X.env)).any (·.1.isNone)) = false := by rfl) :
    PE X (.Call (.Name x p) [] kws pos) (fun σ H Q => tk σ H fun zs H2 => zs.length = ks.length ∧ sp (gV [] zs) H2 Q E) := by
  constructor
  intro pins s σ H Q I h
  apply wpAny_Call_Name_kw
  apply ld_glob I hg hm _ hdb
  apply PySem.W.callWith_KW0 (h₀ := X.base) I.ok.mod.kin hk hall _ hpl
  refine thn (hkw.run pos pins s σ H _ I h) fun ws s2 ⟨zs, H2, I2, rz, l2, q2⟩ => ⟨I2.kIn, ?_⟩
  rw [hks]
  exact run_fnN (us := []) F hr hb hx I2 .nil rz rfl l2 q2
theorem de_callN0 {sp : DSp} {tk : DTA} {g : List Value → List Value → List Value} {gV : List V → List V → List V} {gD : List D → List D → List D} (F : FnOk X.prog X.w X.K X.mg X.base CX k f fd ps (cSp X.K sp)) (hr : Room k X.A) (hg : Gl X x) (hm : X.mg x = some (.ref f)) (hk : PySem.W.keepIn X.K (.ref f) = true) (hb : KBn X.K fd ps 0 ks g gV)
    (hgD : ∀ W ds vs es us, Reps X.K W ds vs → Reps X.K W es us → Reps X.K W (gD ds es) (gV vs us)) (hx : Passes CX X E)
    (hkw : DKw X kws tk) (hall : (backToKw pos (keywordEach kws X.env)).all (·.1.isSome) = true := by rfl) (hks : (backToKw pos (keywordEach kws X.env)).filterMap (·.1) = ks := by rfl)
    (hdb : (x == ("__debug__" : Str)) = false := by decide) (hpl : ((backTo pos (starEach [] X.env)).any (·.1) || (backToKw pos (keywordEach kws X.env)).any (·.1.isNone)) = false := by rfl) :
    DE X (.Call (.Name x p) [] kws pos) (dCallN 0 ks.length sp gD dNil tk) :=
  PE.mono (pe_callN0 F hr hg hm hk hb hx hkw hall hks hdb hpl) fun σ H Q ⟨δ, G, Z, Q0, ok, rs, h, k⟩ =>
    ⟨δ, G, Z, _, ok, rs, h, fun es G2 us H2 h2 k2 ok2 r2 => ⟨r2.length.symm.trans h2.2.1, _, G2, Z, Q0, _, ok2, hgD _ _ _ _ _ .nil r2, h2.2.2, fun d G' v H' q k3 ok3 r3 => k _ _ _ _ q (k2.trans k3) ok3 r3, .none⟩⟩
end

/-! ### more statements -/
section
variable {X : Cx} {e : Expr} {te : DTE} {pos : Pos}
/-- name op= e -/
def dAug (i : Nat) (te : DTE) (r : DR2) : DTS := fun D δ G => match δ[i]? with
  | some (some x) => te δ G fun y G1 => r x y G1 fun z G2 => D.nx (δ.set i (some z)) G2
  | _ => False
theorem ds_aug {i : Nat} {x : Str} {op : Operator} {r : DR2} {pos' : Pos} (hN : X.N.Nodup) (hi : X.N[i]? = some x) (hx : Loc X.env.scope x) (he : DE X e te) (ho : DOp X (inplaceOp op) r) (hf : X.fn x = true ∨ X.env.scope.names.lookup x = some .local := by first | exact .inl rfl | exact .inr rfl | assumption) :
    DS X (.AugAssign (.Name x pos') op e pos) (dAug i te r) :=
  PS.mono (ps_aug hN hi hx he (show PIp X op (cR2 X.K r) from ho) hf) fun E σ H ⟨δ, G, Z, D0, ok, rs, h, l⟩ => by
    unfold dAug at h
    split at h
    · next d ed =>
      obtain ⟨v, ev, rv⟩ := rs.get ed
      exact ⟨v, ev, δ, G, Z, _, ok, rs, h, fun y G1 u H1 h1 k1 ok1 r1 => ⟨d, y, G1, Z, _, ok1, rv.mono k1.keep, r1, h1, fun z G2 w H2 h2 k2 ok2 r2 => l.nx _ _ _ _ h2 (k1.trans k2) ok2 ((rs.mono (k1.trans k2).keep).set r2 i)⟩⟩
    · exact h.elim
/-- a, b, c = x, y, z -/
def dPar3 (i j l : Nat) (ta : DTA) : DTS := fun D δ G => ta δ G fun ds G1 => match ds with
  | [u, v, w] => D.nx (((δ.set i (some u)).set j (some v)).set l (some w)) G1
  | _ => False
theorem ds_par3 {i j l : Nat} {x y z : Str} {a b c : Expr} {ta : DTA} {px py pz pt : Pos} {kt k2 pt2} (hc : X.calm = true) (hN : X.N.Nodup) (hi : X.N[i]? = some x) (hj : X.N[j]? = some y) (hl : X.N[l]? = some z) (hij : i ≠ j) (hil : i ≠ l) (hjl : j ≠ l)
    (hx : X.env.scope.names.lookup x = some .local) (hy : X.env.scope.names.lookup y = some .local) (hz : X.env.scope.names.lookup z = some .local) (ha : DA X [a, b, c] ta)
    (hw : swappedStores [.Tuple [.Name x px, .Name y py, .Name z pz] kt pt] (.Tuple [a, b, c] k2 pt2) X.env = pure (some [x, y, z]))
    (hs : swapsWithSole [.Tuple [.Name x px, .Name y py, .Name z pz] kt pt] (.Tuple [a, b, c] k2 pt2) pos.line X.env = pure false := by rfl) :
    DS X (.Assign [.Tuple [.Name x px, .Name y py, .Name z pz] kt pt] (.Tuple [a, b, c] k2 pt2) pos) (dPar3 i j l ta) :=
  PS.mono (ps_par3 hc hN hi hj hl hij hil hjl hx hy hz ha hw hs) fun E σ H ⟨δ, G, Z, D0, ok, rs, h, l⟩ =>
    ⟨δ, G, Z, _, ok, rs, h, fun ds G1 vs H1 h1 k1 ok1 r1 => by
      rcases r1 with _ | ⟨ra, r1⟩
      · exact False.elim h1
      rcases r1 with _ | ⟨rb, r1⟩
      · exact False.elim h1
      rcases r1 with _ | ⟨rc, r1⟩
      · exact False.elim h1
      rcases r1 with _ | ⟨rd, r1⟩
      · exact ⟨_, _, _, rfl, l.nx _ _ _ _ h1 k1 ok1 ((((rs.mono k1.keep).set ra _).set rb _).set rc _)⟩
      · exact False.elim h1⟩
/-- list(range(..)) -/
def dListRg1 (m : Bool) (ta : DTE) : DTE := fun δ G Q => ta δ G fun x G1 => match x with
  | .int n => RgOk 0 n ∧ lcEnd m (rngD 0 n.toNat) G1 Q
  | _ => False
def dListRg2 (m : Bool) (ta tb : DTE) : DTE := fun δ G Q => ta δ G fun x G1 => tb δ G1 fun y G2 => match x, y with
  | .int i, .int j => RgOk i j ∧ lcEnd m (rngD i (j - i).toNat) G2 Q
  | _, _ => False
theorem rg_rep {K : PySem.W.Frag} {W : Hp} (a b : Int) : Reps K W (rngD a (b - a).toNat) (rgV a b) := by
  unfold rngD rgV
  have e1 : (List.range (b - a).toNat).map (fun (i : Nat) => D.int (a + i)) = ((List.range (b - a).toNat).map fun (i : Nat) => (a + i : Int)).map D.int := by rw [List.map_map]; rfl
  have e2 : (List.range (b - a).toNat).map (fun (i : Nat) => V.int (a + i)) = ((List.range (b - a).toNat).map fun (i : Nat) => (a + i : Int)).map V.int := by rw [List.map_map]; rfl
  rw [e1, e2]
  exact Reps.of_ints _
theorem de_listRg1 (m : Bool) {a : Expr} {ta : DTE} {p p2 pos2 : Pos} (hc : X.calm = true) (hg : Gl X "list") (hm : X.mg "list" = none) (hg2 : Gl X "range") (hm2 : X.mg "range" = none) (ha : DE X a ta)
    (na : starEach [a] X.env = (false, eval a X.env) :: starEach [] X.env := by rfl) (nl : starEach [Expr.Call (.Name "range" p2) [a] [] pos2] X.env = (false, eval (.Call (.Name "range" p2) [a] [] pos2) X.env) :: starEach [] X.env := by rfl) :
    DE X (.Call (.Name "list" p) [.Call (.Name "range" p2) [a] [] pos2] [] pos) (dListRg1 m ta) :=
  PE.mono (pe_listRg hc hg hm (prg_1 hg2 hm2 ha na) nl) fun σ H Q ⟨δ, G, Z, Q0, ok, rs, h, k⟩ =>
    ⟨δ, G, Z, _, ok, rs, h, fun x G1 v H1 h1 k1 ok1 r1 => by
      cases r1 with
      | int n =>
        have h1 : RgOk 0 n ∧ lcEnd m (rngD 0 n.toNat) G1 Q0 := h1
        refine ⟨n, rfl, h1.1, fun q hq => lcEnd_of (m := m) ok1 hq (rg_rep 0 n) ?_ fun d G' v' H' q k2 ok2 r2 => k _ _ _ _ q (k1.trans k2) ok2 r2⟩
        rw [show (n - 0) = n by omega]
        exact h1.2
      | _ => exact False.elim h1⟩
theorem de_listRg2 (m : Bool) {a b : Expr} {ta tb : DTE} {p p2 pos2 : Pos} (hc : X.calm = true) (hg : Gl X "list") (hm : X.mg "list" = none) (hg2 : Gl X "range") (hm2 : X.mg "range" = none) (ha : DE X a ta) (hb : DE X b tb)
    (na : starEach [a, b] X.env = (false, eval a X.env) :: starEach [b] X.env := by rfl) (nb : starEach [b] X.env = (false, eval b X.env) :: starEach [] X.env := by rfl) (hp : (backTo pos2 (starEach [b] X.env)).any (·.1) = false := by rfl)
    (nl : starEach [Expr.Call (.Name "range" p2) [a, b] [] pos2] X.env = (false, eval (.Call (.Name "range" p2) [a, b] [] pos2) X.env) :: starEach [] X.env := by rfl) :
    DE X (.Call (.Name "list" p) [.Call (.Name "range" p2) [a, b] [] pos2] [] pos) (dListRg2 m ta tb) :=
  PE.mono (pe_listRg hc hg hm (prg_2 hg2 hm2 ha hb na nb hp) nl) fun σ H Q ⟨δ, G, Z, Q0, ok, rs, h, k⟩ =>
    ⟨δ, G, Z, _, ok, rs, h, fun x G1 v H1 h1 k1 ok1 r1 => ⟨δ, G1, Z, _, ok1, rs.mono k1.keep, h1, fun y G2 u H2 h2 k2 ok2 r2 => by
      cases r1 with
      | int i =>
        cases r2 with
        | int j => exact ⟨i, j, rfl, rfl, h2.1, fun q hq => lcEnd_of ok2 hq (rg_rep i j) h2.2 fun d G' v' H' q k3 ok3 r3 => k _ _ _ _ q (k1.trans (k2.trans k3)) ok3 r3⟩
        | _ => exact False.elim h2
      | _ => cases r2 <;> exact False.elim h2⟩⟩
/-- str(n) -/
def dStrR (x : D) (G : GHp) (Q : DK) : Prop := match x with
  | .int i => i.natAbs.log2 < 1920 ∧ Q (.str (toString i)) G
  | _ => False
theorem dcall_str : DCall X (.type "str") (dR1 dStrR) :=
  dcall1 call_str_int fun x v H G Z Q Q0 ok r h k => by
    cases r with
    | int i => exact ⟨i, rfl, h.1, k _ _ _ _ h.2 .refl ok (.str _)⟩
    | _ => exact False.elim h
/-- sep.join(a list of texts) -/
def strsOf : List D → Option (List Str)
  | [] => some []
  | .str i :: r => (strsOf r).map (i :: ·)
  | _ :: _ => none
theorem strsOf_map : ∀ ns : List Str, strsOf (ns.map D.str) = some ns
  | [] => rfl
  | n :: r => by simp [strsOf, strsOf_map r]
theorem strsOf_eq : ∀ {ds : List D} {ns : List Str}, strsOf ds = some ns → ds = ns.map D.str
  | [], ns, e => by simp [strsOf] at e; subst e; rfl
  | d :: r, ns, e => by
    cases d with
    | str i =>
      simp only [strsOf] at e
      cases q : strsOf r with
      | none => rw [q] at e; simp at e
      | some ms =>
        rw [q] at e
        simp at e
        subst e
        rw [List.map_cons, ← strsOf_eq q]
    | _ => simp [strsOf] at e
def dJoin (to te : DTE) : DTE := fun δ G Q => to δ G fun x G1 => match x with
  | .str a => te δ G1 fun y G2 => match (lsOf G2 y).bind strsOf with
    | some ys => (ys.map (·.length)).sum + ys.length * a.length ≤ 16777216 ∧ Q (.str (Txt.join a ys)) G2
    | none => False
  | _ => False
theorem de_join {o : Expr} {to : DTE} {apos : Pos} (ho : DE X o to) (he : DE X e te) (hs : starEach [e] X.env = [(false, eval e X.env)] := by rfl) (hbase : attributeBase o "join" X.env (eval o X.env) = eval o X.env := by rfl) (hline : (apos.endLine == pos.line) = true := by rfl) :
    DE X (.Call (.Attribute o "join" apos) [e] [] pos) (dJoin to te) :=
  PE.mono (pe_join ho he hs hbase hline) fun σ H Q ⟨δ, G, Z, Q0, ok, rs, h, k⟩ =>
    ⟨δ, G, Z, _, ok, rs, h, fun x G1 v H1 h1 k1 ok1 r1 => by
      cases r1 with
      | str a =>
        refine ⟨⟨a, rfl⟩, δ, G1, Z, _, ok1, rs.mono k1.keep, h1, fun y G2 u H2 h2 k2 ok2 r2 => ?_⟩
        have h2 : (match (lsOf G2 y).bind strsOf with
          | some ys => (ys.map (·.length)).sum + ys.length * a.length ≤ 16777216 ∧ Q0 (.str (Txt.join a ys)) G2
          | none => False) := h2
        split at h2
        · next ys e =>
          cases el : lsOf G2 y with
          | none => rw [el] at e; simp at e
          | some ds =>
            rw [el] at e
            simp only [Option.bind_some] at e
            obtain ⟨b, vs, rfl, hb, rb⟩ := lsOf_of ok2 r2 el
            rw [strsOf_eq e] at rb
            exact ⟨a, b, ys, rfl, rfl, .inl (SqL.of (by rw [hb, rb.strs])), h2.1, k _ _ _ _ h2.2 (k1.trans k2) ok2 (.str _)⟩
        · exact h2.elim
      | _ => exact False.elim h1⟩
end

/-! ### defs by their number of parameters -/
def sp0 (p : GHp → DK → DXK → Prop) : DSp := fun ds G Q E => match ds with
  | [] => p G Q E
  | _ => False
def sp1 (p : D → GHp → DK → DXK → Prop) : DSp := fun ds G Q E => match ds with
  | [a] => p a G Q E
  | _ => False
def sp2 (p : D → D → GHp → DK → DXK → Prop) : DSp := fun ds G Q E => match ds with
  | [a, b] => p a b G Q E
  | _ => False
def sp3 (p : D → D → D → GHp → DK → DXK → Prop) : DSp := fun ds G Q E => match ds with
  | [a, b, c] => p a b c G Q E
  | _ => False
def sp4 (p : D → D → D → D → GHp → DK → DXK → Prop) : DSp := fun ds G Q E => match ds with
  | [a, b, c, d] => p a b c d G Q E
  | _ => False
def sp5 (p : D → D → D → D → D → GHp → DK → DXK → Prop) : DSp := fun ds G Q E => match ds with
  | [a, b, c, d, e] => p a b c d e G Q E
  | _ => False
/-- where a body starts: the parameters, then no values -/
abbrev DRun (t : DTS) (δ : DSt) (G : GHp) (Q : DK) : Prop := t { nx := fun _ G' => Q .non G', rt := Q } δ G
section
variable {P : Program} {w : World} {K : PySem.W.Frag} {mg : Str → Option Value} {base : Heap} {x qual : Str} {st : Stmt} {f : Addr} {fd : FuncData} {N ps : List Str} {k : Nat} {t : DTS} {l : DSt} {dv : List V} {kv : List (Str × V)}
abbrev Der (P : Program) (w : World) (K : PySem.W.Frag) (mg : Str → Option Value) (base : Heap) (N : List Str) (qual : Str) (st : Stmt) (f : Addr) (k : Nat) (t : DTS) : Prop :=
  ∀ (cdv : Value) (A : Around) (outer : List Env) (s : Shared) (H : Hp) (E : XK), Room k (A.deeper (PyProof.Rows.envOfC qual (defScope st) s.heap.objs.size f cdv)) → DSs (cxOf CX0 P w K mg base N qual (defScope st) f cdv A outer s H E).nox (defBody st) t
theorem DFunD.ok {sp : DSp} (F : FunD K x qual (defArgs st) (defBody st) (defScope st) dv kv f fd) (S : FnScope N ps (defScope st)) (len : ∀ ds G Q E, sp ds G Q E → ds.length = ps.length)
    (hbody : ∀ (cdv : Value) (A : Around) (outer : List Env) (s : Shared) (H : Hp) (E : XK) (ds : List D) (G : GHp) (Q : DK) (E0 : DXK), Room k (A.deeper (PyProof.Rows.envOfC qual (defScope st) s.heap.objs.size f cdv)) → sp ds G Q E0 →
      ∃ t, DSs (cxOf CX0 P w K mg base N qual (defScope st) f cdv A outer s H E).nox (defBody st) t ∧ t { nx := fun _ G' => Q .non G', rt := Q } (dstart N ds) G) : FnOk P w K mg base CX0 (k + 1) f fd ps (cSp K sp) := by
  refine F.ok S (fun vs H Q E ⟨ds, G, Z, Q0, E0, ok, rs, h, k, x⟩ => rs.length.symm.trans (len _ _ _ _ h)) fun cdv A outer s H vs Q E hr ⟨ds, G, Z, Q0, E0, ok, rs, h, k, x⟩ => ?_
  obtain ⟨t, d, q⟩ := hbody cdv A outer s H E ds G Q0 E0 hr h
  exact ⟨_, PSs.nox d, _, G, Z, _, ok, RepSt.start rs, q, ⟨fun δ' G' σ' H' q k1 ok1 _ => k _ _ _ _ q k1 ok1 .non, fun _ _ _ _ q => q.elim, fun _ _ _ _ q => q.elim, fun d G' v H' q k1 ok1 r1 => k _ _ _ _ q k1 ok1 r1⟩⟩
theorem DFun.ok0 {p : GHp → DK → DXK → Prop} (F : FunD K x qual (defArgs st) (defBody st) (defScope st) dv kv f fd) (S : FnScope N ps (defScope st)) (hp : ps.length = 0) (hl : List.replicate (N.length - 0) none = l) (d : Der P w K mg base N qual st f k t) (rd : ∀ G Q E, p G Q E → DRun t l G Q) :
    FnOk P w K mg base CX0 (k + 1) f fd ps (cSp K (sp0 p)) :=
  DFunD.ok F S (fun ds G Q E h => by
    match ds, h with
    | [], _ => exact hp.symm) fun cdv A outer s H E ds G Q E0 hr h => by
    match ds, h with
    | [], h => exact ⟨t, d cdv A outer s H E hr, by subst hl; exact rd G Q E0 h⟩
theorem DFun.ok1 {p : D → GHp → DK → DXK → Prop} (F : FunD K x qual (defArgs st) (defBody st) (defScope st) dv kv f fd) (S : FnScope N ps (defScope st)) (hp : ps.length = 1) (hl : List.replicate (N.length - 1) none = l) (d : Der P w K mg base N qual st f k t) (rd : ∀ a G Q E, p a G Q E → DRun t (some a :: l) G Q) :
    FnOk P w K mg base CX0 (k + 1) f fd ps (cSp K (sp1 p)) :=
  DFunD.ok F S (fun ds G Q E h => by
    match ds, h with
    | [_], _ => exact hp.symm) fun cdv A outer s H E ds G Q E0 hr h => by
    match ds, h with
    | [a], h => exact ⟨t, d cdv A outer s H E hr, by subst hl; exact rd a G Q E0 h⟩
theorem DFun.ok2 {p : D → D → GHp → DK → DXK → Prop} (F : FunD K x qual (defArgs st) (defBody st) (defScope st) dv kv f fd) (S : FnScope N ps (defScope st)) (hp : ps.length = 2) (hl : List.replicate (N.length - 2) none = l) (d : Der P w K mg base N qual st f k t) (rd : ∀ a b G Q E, p a b G Q E → DRun t (some a :: some b :: l) G Q) :
    FnOk P w K mg base CX0 (k + 1) f fd ps (cSp K (sp2 p)) :=
  DFunD.ok F S (fun ds G Q E h => by
    match ds, h with
    | [_, _], _ => exact hp.symm) fun cdv A outer s H E ds G Q E0 hr h => by
    match ds, h with
    | [a, b], h => exact ⟨t, d cdv A outer s H E hr, by subst hl; exact rd a b G Q E0 h⟩
theorem DFun.ok3 {p : D → D → D → GHp → DK → DXK → Prop} (F : FunD K x qual (defArgs st) (defBody st) (defScope st) dv kv f fd) (S : FnScope N ps (defScope st)) (hp : ps.length = 3) (hl : List.replicate (N.length - 3) none = l) (d : Der P w K mg base N qual st f k t) (rd : ∀ a b c G Q E, p a b c G Q E → DRun t (some a :: some b :: some c :: l) G Q) :
    FnOk P w K mg base CX0 (k + 1) f fd ps (cSp K (sp3 p)) :=
  DFunD.ok F S (fun ds G Q E h => by
    match ds, h with
    | [_, _, _], _ => exact hp.symm) fun cdv A outer s H E ds G Q E0 hr h => by
    match ds, h with
    | [a, b, c], h => exact ⟨t, d cdv A outer s H E hr, by subst hl; exact rd a b c G Q E0 h⟩
theorem DFun.ok4 {p : D → D → D → D → GHp → DK → DXK → Prop} (F : FunD K x qual (defArgs st) (defBody st) (defScope st) dv kv f fd) (S : FnScope N ps (defScope st)) (hp : ps.length = 4) (hl : List.replicate (N.length - 4) none = l) (d : Der P w K mg base N qual st f k t) (rd : ∀ a b c e G Q E, p a b c e G Q E → DRun t (some a :: some b :: some c :: some e :: l) G Q) :
    FnOk P w K mg base CX0 (k + 1) f fd ps (cSp K (sp4 p)) :=
  DFunD.ok F S (fun ds G Q E h => by
    match ds, h with
    | [_, _, _, _], _ => exact hp.symm) fun cdv A outer s H E ds G Q E0 hr h => by
    match ds, h with
    | [a, b, c, e], h => exact ⟨t, d cdv A outer s H E hr, by subst hl; exact rd a b c e G Q E0 h⟩
theorem DFun.ok5 {p : D → D → D → D → D → GHp → DK → DXK → Prop} (F : FunD K x qual (defArgs st) (defBody st) (defScope st) dv kv f fd) (S : FnScope N ps (defScope st)) (hp : ps.length = 5) (hl : List.replicate (N.length - 5) none = l) (d : Der P w K mg base N qual st f k t) (rd : ∀ a b c e g G Q E, p a b c e g G Q E → DRun t (some a :: some b :: some c :: some e :: some g :: l) G Q) :
    FnOk P w K mg base CX0 (k + 1) f fd ps (cSp K (sp5 p)) :=
  DFunD.ok F S (fun ds G Q E h => by
    match ds, h with
    | [_, _, _, _, _], _ => exact hp.symm) fun cdv A outer s H E ds G Q E0 hr h => by
    match ds, h with
    | [a, b, c, e, g], h => exact ⟨t, d cdv A outer s H E hr, by subst hl; exact rd a b c e g G Q E0 h⟩
end
/-- a def of the text: its address, what stands at its name, how its arguments bind -/
structure FnT (K : PySem.W.Frag) (mg : Str → Option Value) (name : Str) (st : Stmt) (ps : List Str) where
  f : Addr
  fd : FuncData
  F : FunD K name name (defArgs st) (defBody st) (defScope st) [] [] f fd
  m : mg name = some (.ref f)
  b : Binds K fd ps []

/-- a plain def called with keywords -/
theorem kb_of_fun {K : PySem.W.Frag} {x qual : Str} {params : Arguments} {body : List Stmt} {scope : Scope} {f : Addr} {fd : FuncData} {ps ks : List Str} {n : Nat} (F : FunD K x qual params body scope [] [] f fd) (ix : List Nat)
    (h : ∀ (kV doc pm : Value) (an : Option Addr) (cdv ct : Value) (us ws : List Value), us.length = n → ws.length = ks.length → bindArgs (PySem.W.fnOf x qual params body scope .none kV doc pm an cdv ct) ⟨us, ks.zip ws⟩ = pure (ps.zip (kperm ix us ws))) : KBn K fd ps n ks (kperm ix) (kperm ix) := by
  obtain ⟨oc, od, dV, kV, doc, pm, an, cdv, ct, osl, rfl, _, _, hd, _⟩ := F.ex
  have e : dV = .none := by
    rcases hd with ⟨_, e⟩ | ⟨e, _⟩
    · exact e
    · exact absurd rfl e
  subst e
  exact kbn_of ix fun s us ws h1 h2 => .of_eq (h kV doc pm an cdv ct us ws h1 h2)

/-! ### the law -/
/-- the law's promise: at every script of at most n ints, each of at most 2 ^ 20 bits, it returns True -/
def spLaw (n : Nat) : DSp := sp1 fun a G Q _ => ∃ ns : List Int, a = .scr (ns.map .int) ∧ ns.length ≤ n ∧ (∀ z ∈ ns, Builtin.Int.intBits z ≤ 1048576) ∧ (∀ a, G a = none) ∧ Q (.bl true) G
theorem law_sp {K : PySem.W.Frag} {H : Hp} {a : Addr} {ns : List Int} {n : Nat} (hn : ns.length ≤ n) (hb : ∀ z ∈ ns, Builtin.Int.intBits z ≤ 1048576) (hs : SqL K H a (ns.map V.int)) :
    cSp K (spLaw n) [.ref a] H (fun v _ => v = .bl true) (fun _ _ _ => False) := by
  refine ⟨[.scr (ns.map .int)], fun _ => none, fun _ => false, fun d _ => d = .bl true, DX0, ⟨fun _ _ e => (nomatch e), fun _ e => (nomatch e)⟩, .cons (.scr (SqL.mono (fun b o e => U_of rfl rfl e) hs) (Reps.of_ints _)) .nil, ⟨ns, rfl, hn, hb, fun _ => rfl, rfl⟩, fun d G' v H' q _ _ r => ?_, .none⟩
  subst q
  cases r
  rfl
theorem walk_law {l : PySem.W.OpenLaw} {n k : Nat} {q : Program} {loose : List Str} {XP : (Str → Option Value) → Heap → Prop} {YP : World → Heap → Prop} {d : DefRec} {K : Params → PySem.W.Frag} {x : Str}
    (hn : l.most = some n) (hn2 : n ≤ sizeLine) (hdf : d.params.defaults = []) (hr : Room k callerA)
    (hY : ∀ (w : World) (h : Heap), YP w h → (K w.params).In h)
    (F : ∀ (w : World) (mg : Str → Option Value) (fa : Addr) (h : Heap), (K w.params).In h → h.Ns mainGlobals mg → mg d.name = some (.ref fa) →
      ∃ fd : FuncData, (∀ (s : Shared) (u : Value), BindsTo s fd ⟨[u], []⟩ [(x, u)]) ∧
        ∀ base : Heap, (K w.params).In base → base.Ns mainGlobals mg → FnOk l.prog w (K w.params) mg base CX0 k fa fd [x] (cSp (K w.params) (spLaw n))) :
    PySem.W.WalkO q loose XP YP l.row.toRowW d [] (fun f vs => PySem.call f vs) :=
  walk_ofB hn hn2 hdf hr hY F (fun w H a ns hl hb _ hS => law_sp hl hb hS) fun _ _ _ _ _ z => z
theorem walk_lawE {l : PySem.W.OpenLaw} {n k : Nat} {q : Program} {loose : List Str} {XP : (Str → Option Value) → Heap → Prop} {YP : World → Heap → Prop} {d : DefRec} {x : Str}
    (hn : l.most = some n) (hn2 : n ≤ sizeLine) (hdf : d.params.defaults = []) (hr : Room k callerA)
    (F : ∀ (w : World) (mg : Str → Option Value) (fa : Addr) (h : Heap), YP w h → h.Ns mainGlobals mg → mg d.name = some (.ref fa) →
      ∃ (K : PySem.W.Frag) (fd : FuncData), K.In h ∧ (∀ (s : Shared) (u : Value), BindsTo s fd ⟨[u], []⟩ [(x, u)]) ∧ ∀ base : Heap, K.In base → base.Ns mainGlobals mg → FnOk l.prog w K mg base CX0 k fa fd [x] (cSp K (spLaw n))) :
    PySem.W.WalkO q loose XP YP l.row.toRowW d [] (fun f vs => PySem.call f vs) := by
  apply Att.attach_callB hn hdf
  intro w s₀ s₁ mg mb fa o pm cd doc a vs ns g y ho hd hcd hmg hobj hints hlen hbits hg
  obtain ⟨K, fd, KX, hb, hF⟩ := F w mg fa _ y g.T.g hmg
  exact law_call KX g.T.g g.T.b g.T.builtins g.T.nolimit hg hobj hints (Nat.le_trans hlen hn2) hr hF hb (fun H _ hS => law_sp hlen hbits hS) fun _ _ _ z => z
end DL
set_option Elab.async false
set_option linter.all false
set_option maxRecDepth 100000
set_option maxHeartbeats 1000000
/-! DL, part 7: how readings are shown: loops by what remains, the small heap, trees, the law's draws. -/
namespace DL
open PySem PySem.Spec L2

/-! ### loops -/
theorem for_ind {gd : Gd} {g : Tgt} {tb : DTS} {E : DEnds} {α : Type} {enc : α → D} (I : List α → DSt → GHp → Prop) (hd : ∀ δ G, I [] δ G → gd.ok G ∧ E.nx δ G)
    (hs : ∀ x r δ G, I (x :: r) δ G → gd.ok G ∧ ∃ δ', g.set (enc x) δ = some δ' ∧ ∀ N : DSt → GHp → Prop, (∀ δ G, I r δ G → N δ G) → tb { E with nx := N, ct := N, bk := E.nx } δ' G) :
    ∀ (xs : List α) (δ : DSt) (G : GHp), I xs δ G → dForL gd g tb (xs.map enc) E δ G
  | [], δ, G, h => hd δ G h
  | x :: r, δ, G, h => by
    obtain ⟨h1, δ', e, h2⟩ := hs x r δ G h
    refine ⟨h1, ?_⟩
    rw [e]
    exact h2 _ fun δ G q => for_ind I hd hs r δ G q
theorem while_ind {c : DTT} {tb : DTS} {E : DEnds} {δ : DSt} {G : GHp} (I : Nat → DSt → GHp → Prop) (n : Nat) (h0 : I n δ G)
    (hs : ∀ n δ G, I n δ G → ∀ N : DSt → GHp → Prop, (∀ m δ G, m < n → I m δ G → N δ G) → c δ G fun b G1 => dIte b (tb { E with nx := N, ct := N, bk := E.nx } δ G1) (E.nx δ G1)) : dWhile c tb E δ G := by
  refine ⟨n + 1, ?_⟩
  have key : ∀ n m δ G, m ≤ n → I m δ G → dWhN c tb (n + 1) E δ G := by
    intro n
    induction n with
    | zero =>
      intro m δ G hm h
      exact hs m δ G h _ fun k δ G hk _ => absurd hk (by omega)
    | succ n ih =>
      intro m δ G hm h
      exact hs m δ G h _ fun k δ G hk q => ih k δ G (by omega) q
  exact key n n δ G (Nat.le_refl _) h0
theorem lc_ind {m : Bool} {gd : Gd} {g : Tgt} {tt : DTT} {te : DTE} {δw : DSt} {Q : DK} {α : Type} {enc : α → D} (I : List α → List D → GHp → Prop) (hd : ∀ acc G, I [] acc G → gd.ok G ∧ lcEnd m acc G Q)
    (hs : ∀ x r acc G, I (x :: r) acc G → gd.ok G ∧ ∃ δ', g.set (enc x) δw = some δ' ∧ ∀ N : List D → GHp → Prop, (∀ acc G, I r acc G → N acc G) →
      tt δ' G fun b G1 => dIte b (te δ' G1 fun y G2 => acc.length < sizeLine ∧ N (acc ++ [y]) G2) (N acc G1)) :
    ∀ (xs : List α) (acc : List D) (G : GHp), I xs acc G → dLcL m gd g tt te δw (xs.map enc) acc G Q
  | [], acc, G, h => hd acc G h
  | x :: r, acc, G, h => by
    obtain ⟨h1, δ', e, h2⟩ := hs x r acc G h
    refine ⟨h1, ?_⟩
    rw [e]
    exact h2 _ fun acc G q => lc_ind I hd hs r acc G q
/-- te gives v, and leaves all as it is -/
def Ev (te : DTE) (δ : DSt) (G : GHp) (v : D) : Prop := ∀ R : DK, R v G → te δ G R
def EvT (t : DTT) (δ : DSt) (G : GHp) (b : Bool) : Prop := ∀ R : Bool → GHp → Prop, R b G → t δ G R
theorem evT_yes {δ : DSt} {G : GHp} : EvT dYes δ G true := fun _ h => h
/-- a comprehension that changes nothing -/
theorem lc_map {m : Bool} {gd : Gd} {i : Nat} {tt : DTT} {te : DTE} {δw : DSt} {G : GHp} {Q : DK} {α : Type} {enc : α → D} {keep : α → Bool} {f : α → D} {xs : List α} (hz : xs.length ≤ sizeLine) (hg : gd.ok G)
    (ht : ∀ x ∈ xs, EvT tt (δw.set i (some (enc x))) G (keep x)) (he : ∀ x ∈ xs, keep x = true → Ev te (δw.set i (some (enc x))) G (f x)) (h : lcEnd m ((xs.filter keep).map f) G Q) :
    dLcL m gd (.nm i) tt te δw (xs.map enc) [] G Q := by
  refine lc_ind (fun r acc G' => G' = G ∧ ∃ pre, xs = pre ++ r ∧ acc = (pre.filter keep).map f) ?_ ?_ xs [] G ⟨rfl, [], rfl, rfl⟩
  · rintro acc _ ⟨rfl, pre, e, rfl⟩
    rw [List.append_nil] at e
    subst e
    exact ⟨hg, h⟩
  · rintro x r acc _ ⟨rfl, pre, e, rfl⟩
    refine ⟨hg, _, rfl, fun N hN => ?_⟩
    have hx : x ∈ xs := by rw [e]; simp
    refine ht x hx _ ⟨fun hk => ?_, fun hk => ?_⟩
    · refine he x hx hk _ ⟨?_, hN _ _ ⟨rfl, pre ++ [x], by rw [e]; simp, ?_⟩⟩
      · have h1 : ((pre.filter keep).map f).length ≤ pre.length := by rw [List.length_map]; exact List.length_filter_le _ _
        have h2 : xs.length = pre.length + (r.length + 1) := by rw [e]; simp
        omega
      · rw [List.filter_append, List.map_append]
        simp [hk]
    · refine hN _ _ ⟨rfl, pre ++ [x], by rw [e]; simp, ?_⟩
      rw [List.filter_append, List.map_append]
      simp [hk]

/-! ### the small heap -/
theorem gne {G : GHp} {p q : Addr} {o : GO} (h : G q = some o) (h' : G p = none) : q ≠ p := fun e => by rw [e, h'] at h; cases h
theorem lsOf_ref {G : GHp} {p : Addr} {ds : List D} (h : G p = some (.lst ds)) : lsOf G (.ref p) = some ds := by unfold lsOf; simp only [h]
theorem lsOf_lst {G : GHp} {ds : List D} : lsOf G (.lst ds) = some ds := rfl
theorem pdOf_ref {G : GHp} {p : Addr} {ds : List D} (h : G p = some (.lst ds)) : pdOf G (.ref p) = (D.dataL ds).map .list := by unfold pdOf; simp only [h]
theorem gupd_at {G : GHp} {a b : Addr} {o u : GO} (h : b ≠ a) (q : G b = some u) : gupd G a o b = some u := (gupd_ne h).trans q
theorem gupd_none {G : GHp} {a b : Addr} {o : GO} (h : gupd G a o b = none) : b ≠ a ∧ G b = none := by
  by_cases e : b = a
  · subst e; rw [gupd_same] at h; cases h
  · exact ⟨e, by rw [gupd_ne e] at h; exact h⟩
theorem gupd_comm {G : GHp} {a b : Addr} {o u : GO} (h : a ≠ b) : gupd (gupd G a o) b u = gupd (gupd G b u) a o := by
  funext c; unfold gupd
  by_cases e1 : c = a
  · by_cases e2 : c = b
    · exact absurd (e1.symm.trans e2) h
    · simp [e1, h]
  · by_cases e2 : c = b
    · subst e2; simp [e1]
    · simp [e1, e2]
/-- what was tracked at p is tracked no more -/
def gdel (G : GHp) (p : Addr) : GHp := fun b => if b = p then none else G b
theorem gdel_gupd {G : GHp} {p : Addr} {o : GO} (h : G p = none) : gdel (gupd G p o) p = G := by
  funext b; unfold gdel gupd
  split
  · next e => rw [e, h]
  · rfl
theorem gdel_ne {G : GHp} {p b : Addr} (h : b ≠ p) : gdel G p b = G b := by unfold gdel; rw [if_neg h]
theorem gdel_same {G : GHp} {p : Addr} : gdel G p p = none := by unfold gdel; rw [if_pos rfl]

/-! ### trees: lists at the addresses in S become trees -/
mutual
inductive Tree (G : GHp) (S : Addr → Prop) : D → D → Prop
  | same (d : D) : Tree G S d d
  | ref {a : Addr} {ds ts : List D} : S a → G a = some (.lst ds) → Trees G S ds ts → Tree G S (.ref a) (.lst ts)
  | tup {ds ts : List D} : Trees G S ds ts → Tree G S (.tup ds) (.tup ts)
  | lst {ds ts : List D} : Trees G S ds ts → Tree G S (.lst ds) (.lst ts)
inductive Trees (G : GHp) (S : Addr → Prop) : List D → List D → Prop
  | nil : Trees G S [] []
  | cons {d t : D} {ds ts : List D} : Tree G S d t → Trees G S ds ts → Trees G S (d :: ds) (t :: ts)
end
theorem Trees.same {G : GHp} {S : Addr → Prop} : ∀ ds : List D, Trees G S ds ds
  | [] => .nil
  | d :: r => .cons (.same d) (Trees.same r)
theorem Trees.append {G : GHp} {S : Addr → Prop} : ∀ {ds ts es us : List D}, Trees G S ds ts → Trees G S es us → Trees G S (ds ++ es) (ts ++ us)
  | _, _, _, _, .nil, q => q
  | _, _, _, _, .cons h r, q => .cons h (Trees.append r q)
theorem Trees.length {G : GHp} {S : Addr → Prop} : ∀ {ds ts : List D}, Trees G S ds ts → ds.length = ts.length
  | _, _, .nil => rfl
  | _, _, .cons h r => by simp [Trees.length r]
theorem Trees.get {G : GHp} {S : Addr → Prop} : ∀ {ds ts : List D} {i : Nat} {d : D}, Trees G S ds ts → ds[i]? = some d → ∃ t, ts[i]? = some t ∧ Tree G S d t
  | _, _, 0, d, .cons h r, e => by
    simp at e; subst e; exact ⟨_, rfl, h⟩
  | _, _, i + 1, d, .cons h r, e => by
    obtain ⟨v, h1, h2⟩ := Trees.get (i := i) (d := d) r (by simpa using e)
    exact ⟨v, by simpa using h1, h2⟩
theorem Trees.get' {G : GHp} {S : Addr → Prop} : ∀ {ds ts : List D} {i : Nat} {t : D}, Trees G S ds ts → ts[i]? = some t → ∃ d, ds[i]? = some d ∧ Tree G S d t
  | _, _, 0, d, .cons h r, e => by
    simp at e; subst e; exact ⟨_, rfl, h⟩
  | _, _, i + 1, d, .cons h r, e => by
    obtain ⟨v, h1, h2⟩ := Trees.get' (i := i) (t := d) r (by simpa using e)
    exact ⟨v, by simpa using h1, h2⟩
section
variable {K : PySem.W.Frag} {H : Hp} {G G' : GHp} {Z : Addr → Bool} {S : Addr → Prop}
mutual
theorem Tree.rep (ok : Ok K H G Z) (k : ∀ a o, U H G Z a = some o → U H G' Z a = some o) (hS : ∀ a, S a → G' a = none) : ∀ {d t : D} {v : V}, Tree G S d t → Rep K (U H G Z) d v → Rep K (U H G' Z) t v
  | _, _, _, .same d, r => r.mono k
  | _, _, _, .ref (a := a) hs hg ts, r => by
    cases r
    obtain ⟨hz, xs, hx, rx⟩ := ok.ok a _ hg
    exact .lst (U_of (hS a hs) hz hx) (Trees.rep ok k hS ts rx)
  | _, _, _, .tup ts, r => by
    cases r with
    | tup q rr => exact .tup (SqT.mono k q) (Trees.rep ok k hS ts rr)
  | _, _, _, .lst ts, r => by
    cases r with
    | lst q rr => exact .lst (k _ _ q) (Trees.rep ok k hS ts rr)
theorem Trees.rep (ok : Ok K H G Z) (k : ∀ a o, U H G Z a = some o → U H G' Z a = some o) (hS : ∀ a, S a → G' a = none) : ∀ {ds ts : List D} {vs : List V}, Trees G S ds ts → Reps K (U H G Z) ds vs → Reps K (U H G' Z) ts vs
  | _, _, _, .nil, r => by cases r; exact .nil
  | _, _, _, .cons h q, r => by
    cases r with
    | cons r rr => exact .cons (Tree.rep ok k hS h r) (Trees.rep ok k hS q rr)
end
end
/-- slots told by trees, or forgotten -/
inductive TreeO (G : GHp) (S : Addr → Prop) : Option D → Option D → Prop
  | no (o : Option D) : TreeO G S o none
  | so {d t : D} : Tree G S d t → TreeO G S (some d) (some t)
abbrev TreeSt (G : GHp) (S : Addr → Prop) (δ δ' : DSt) : Prop := Paired (TreeO G S) δ δ'
theorem TreeSt.same {G : GHp} {S : Addr → Prop} : ∀ δ : DSt, TreeSt G S δ δ
  | [] => .nil
  | none :: r => .cons (.no _) (TreeSt.same r)
  | some d :: r => .cons (.so (.same d)) (TreeSt.same r)
theorem TreeSt.set {G : GHp} {S : Addr → Prop} {d t : D} (q : Tree G S d t) : ∀ {δ : DSt} {i : Nat}, δ[i]? = some (some d) → TreeSt G S δ (δ.set i (some t))
  | [], i, e => by simp at e
  | o :: r, 0, e => by
    simp at e; subst e
    exact .cons (.so q) (TreeSt.same r)
  | o :: r, i + 1, e => by
    have ih := TreeSt.set q (δ := r) (i := i) (by simpa using e)
    refine .cons ?_ ih
    cases o with
    | none => exact .no _
    | some d => exact .so (.same d)
/-- THE GHOST: the lists at S become trees; of the others those that G' tells stay tracked, with trees in them -/
theorem View.tree {K : PySem.W.Frag} {δ δ' : DSt} {G G' : GHp} (S : Addr → Prop) (hS : ∀ a, S a → G' a = none) (hG : ∀ a o, G' a = some o → G a = some o ∨ ∃ ds ts, G a = some (.lst ds) ∧ o = .lst ts ∧ Trees G S ds ts) (hd : TreeSt G S δ δ') : View K δ G δ' G' := by
  intro H Z σ ok rs
  have none_of : ∀ a, G a = none → G' a = none := fun a e => by
    cases e' : G' a with
    | none => rfl
    | some o =>
      rcases hG a o e' with q | ⟨ds, ts, q, _⟩ <;> (rw [e] at q; cases q)
  have k : ∀ a o, U H G Z a = some o → U H G' Z a = some o := fun a o e => by
    obtain ⟨e1, e2, e3⟩ := U_some e
    exact U_of (none_of a e1) e2 e3
  refine ⟨⟨k, fun _ _ _ e => e⟩, ⟨fun a o e => ?_, ok.hid⟩, ?_⟩
  · rcases hG a o e with q | ⟨ds, ts, q, rfl, tr⟩
    · obtain ⟨z, g⟩ := ok.ok a o q
      exact ⟨z, g.mono k rfl⟩
    · obtain ⟨z, xs, hx, rx⟩ := ok.ok a _ q
      exact ⟨z, xs, hx, Trees.rep ok k hS tr rx⟩
  · have key : ∀ {δ δ' : DSt} {σ : L2.St}, TreeSt G S δ δ' → RepSt K (U H G Z) δ σ → RepSt K (U H G' Z) δ' σ := by
      intro δ δ' σ h
      induction h generalizing σ with
      | nil => intro r; cases r; exact .nil
      | cons q t ih =>
        intro r
        cases r with
        | cons r1 r2 =>
          refine .cons ?_ (ih r2)
          cases q with
          | no o => exact .no _
          | so q =>
            cases r1 with
            | so r1 => exact .so (Tree.rep ok k hS q r1)
    exact key hd rs
theorem View.refl {K : PySem.W.Frag} {δ : DSt} {G : GHp} : View K δ G δ G := fun H Z σ ok rs => ⟨.refl, ok, rs⟩

/-- a tracked list is tracked no more -/
theorem View.forget {K : PySem.W.Frag} {δ : DSt} {G : GHp} {q : Addr} {o : GO} (h : G q = none) : View K δ (gupd G q o) δ G :=
  View.tree (fun a => a = q) (fun a e => by rw [e]; exact h) (fun a u e => .inl (by rw [gupd_ne (fun e2 => by rw [e2, h] at e; cases e)]; exact e)) (TreeSt.same δ)
/-! ### places in lists -/
theorem atI_of_lt {α : Type} {xs : List α} {i : Int} (h0 : 0 ≤ i) (h1 : i < xs.length) : atI xs i = xs[i.toNat]? := by
  unfold atI ixN
  rw [if_pos h0, if_pos h1]
  rfl
theorem atD_of {ds : List D} {i : Int} {Q : D → Prop} (h0 : 0 ≤ i) (h1 : i < ds.length) (h : ∀ d ∈ ds, Q d) : atD ds i Q := by
  unfold atD
  rw [atI_of_lt h0 h1]
  have hl : i.toNat < ds.length := by omega
  rw [List.getElem?_eq_getElem hl]
  exact h _ (List.getElem_mem hl)
theorem atD_get {ds : List D} {i : Int} {d : D} {Q : D → Prop} (h0 : 0 ≤ i) (h1 : i < ds.length) (e : ds[i.toNat]? = some d) (h : Q d) : atD ds i Q := by
  unfold atD
  rw [atI_of_lt h0 h1, e]
  exact h
theorem atD_nat {ds : List D} {i : Nat} {d : D} {Q : D → Prop} (e : ds[i]? = some d) (h : Q d) : atD ds (i : Int) Q := by
  have hl := (List.getElem?_eq_some_iff.mp e).1
  exact atD_get (by omega) (by omega) (by simpa using e) h
theorem atI_neg1 {α : Type} {xs : List α} (h : xs ≠ []) : atI xs (-1) = some (xs.getLast h) := by
  have hl : 0 < xs.length := List.length_pos_iff.mpr h
  unfold atI ixN
  rw [if_neg (by omega), if_pos (by omega)]
  have e : ((-1 : Int) + (xs.length : Int)).toNat = xs.length - 1 := by omega
  show xs[((-1 : Int) + (xs.length : Int)).toNat]? = _
  rw [e, List.getLast_eq_getElem, List.getElem?_eq_getElem]
theorem atD_last {ds : List D} {d : D} {Q : D → Prop} (h : Q d) : atD (ds ++ [d]) (-1) Q := by
  unfold atD
  rw [atI_neg1 (by simp)]
  simpa using h

/-! ### a law's draws: a box of three numbers -/
structure Bx where
  a : Int
  b : Int
  c : Int
def Bx.go (s : Bx) : GO := .lst [.int s.a, .int s.b, .int s.c]
structure Bx.Ok (s : Bx) (k : Nat) : Prop where
  a0 : 0 ≤ s.a
  b0 : 0 ≤ s.b
  b1 : s.b < 2147483648
  c0 : 0 ≤ s.c
  c1 : s.c ≤ k
theorem Bx.Ok.mono {s : Bx} {j k : Nat} (h : s.Ok j) (hk : j ≤ k) : s.Ok k := ⟨h.a0, h.b0, h.b1, h.c0, by have := h.c1; omega⟩
/-- box, many: any number below many is drawn -/
def spTake : DSp := sp2 fun x m G Q _ => ∃ (p : Addr) (s : Bx) (k : Nat) (n : Int), x = .ref p ∧ G p = some s.go ∧ s.Ok k ∧ k < 2 ^ 30 ∧ m = .int n ∧ 0 < n ∧ n.natAbs < 2 ^ 1000 ∧
  ∀ (v : Int) (s' : Bx), 0 ≤ v → v < n → s'.Ok (k + 1) → Q (.int v) (gupd G p s'.go)
/-- a new box -/
def spBox : DSp := sp1 fun x G Q _ => ∃ z : Int, x = .int z ∧ ∀ (p : Addr) (s : Bx), G p = none → s.Ok 0 → Q (.ref p) (gupd G p s.go)
/-- the k-th number of the script, or one that is made up -/
def spCell : DSp := sp2 fun x m G Q _ => ∃ (ns : List Int) (k : Int), x = .scr (ns.map .int) ∧ m = .int k ∧ 0 ≤ k ∧ k < 2 ^ 40 ∧ ∀ z : Int, Q (.int z) G
end DL
set_option Elab.async false
set_option linter.all false
set_option maxRecDepth 100000
set_option maxHeartbeats 1000000
/-! DL, part 8: max, min, sorted of tuples of ints, too. -/
namespace DL
open PySem PySem.Spec L2 PyProof.Rows

section
variable {prog : Program} {w : World} {A : Around} {E : Value → Shared → Prop} {s : Shared} {l : Addr}
theorem best_gtT {xs : Array (Int × Tok)} {Q : Value → Shared → Prop} (hh : A.handled = none) (hl : s.heap.IsTuple l (intItems xs)) (hne : 0 < xs.size)
    (h : ∀ v h' tk, (intItems xs)[argBest (fun i j => decide (numAt xs i > numAt xs j)) (xs.size - 1)]? = some v → (∀ b o, s.heap.get? b = some o → h'.get? b = some o) → Q v { s with heap := h', toks := tk }) :
    wpAny (model prog w) A (call (.builtin "max") [.ref l]) Q E s := by
  have hlt : l < s.heap.objs.size := by obtain ⟨_, e, _⟩ := hl; exact Heap.lt_size e
  refine call_max_walk (wpAny_pyIter_tuple hl ?_)
  refine ⟨_, _, _, _, _, _, _, rfl, Walks.tuple (A := A.in1) hh _ l (Nat.ne_of_lt hlt) (intItems xs), ⟨⟨_, Heap.get?_push_size _ rfl, rfl, rfl⟩, hl.push _⟩, fun b hb => ?_, by simpa [intItems] using hne, CmpOf.ints_gt (numAt xs) (fun _ _ => intItems_at), fun v h' tk hP hk => ?_⟩
  · show b < (s.heap.push _).objs.size
    rw [Heap.size_push]
    simp only [List.mem_cons, List.not_mem_nil, or_false] at hb
    rcases hb with rfl | rfl
    · exact Nat.lt_succ_self _
    · exact Nat.lt_succ_of_lt hlt
  · refine h v h' tk (by simpa [intItems] using hP) fun b o e => hk b o (fun hm => ?_) (Heap.get?_push_of_some _ e)
    simp only [List.mem_cons, List.not_mem_nil, or_false] at hm
    exact absurd (hm ▸ Heap.lt_size e) (Nat.lt_irrefl _)
theorem best_ltT {xs : Array (Int × Tok)} {Q : Value → Shared → Prop} (hh : A.handled = none) (hl : s.heap.IsTuple l (intItems xs)) (hne : 0 < xs.size)
    (h : ∀ v h' tk, (intItems xs)[argBest (fun i j => decide (numAt xs i < numAt xs j)) (xs.size - 1)]? = some v → (∀ b o, s.heap.get? b = some o → h'.get? b = some o) → Q v { s with heap := h', toks := tk }) :
    wpAny (model prog w) A (call (.builtin "min") [.ref l]) Q E s := by
  have hlt : l < s.heap.objs.size := by obtain ⟨_, e, _⟩ := hl; exact Heap.lt_size e
  refine call_min_walk (wpAny_pyIter_tuple hl ?_)
  refine ⟨_, _, _, _, _, _, _, rfl, Walks.tuple (A := A.in1) hh _ l (Nat.ne_of_lt hlt) (intItems xs), ⟨⟨_, Heap.get?_push_size _ rfl, rfl, rfl⟩, hl.push _⟩, fun b hb => ?_, by simpa [intItems] using hne, CmpOf.ints_lt (numAt xs) (fun _ _ => intItems_at), fun v h' tk hP hk => ?_⟩
  · show b < (s.heap.push _).objs.size
    rw [Heap.size_push]
    simp only [List.mem_cons, List.not_mem_nil, or_false] at hb
    rcases hb with rfl | rfl
    · exact Nat.lt_succ_self _
    · exact Nat.lt_succ_of_lt hlt
  · refine h v h' tk (by simpa [intItems] using hP) fun b o e => hk b o (fun hm => ?_) (Heap.get?_push_of_some _ e)
    simp only [List.mem_cons, List.not_mem_nil, or_false] at hm
    exact absurd (hm ▸ Heap.lt_size e) (Nat.lt_irrefl _)
variable {its : List Value} {ns : List Int} {Q : Value → Shared → Prop}
theorem max_rawT (hh : A.handled = none) (hl : s.heap.IsTuple l its.toArray) (hi : IntsAre its ns) (hne : ns ≠ [])
    (h : ∀ h' tk t', (∀ b o, s.heap.get? b = some o → h'.get? b = some o) → Q (.int (maxI ns) t') { s with heap := h', toks := tk }) : wpAny (model prog w) A (call (.builtin "max") [.ref l]) Q E s := by
  obtain ⟨xs, e⟩ := hi.allInts.items
  have hn : numsOf (intItems xs).toList = ns := by rw [← e]; exact hi.numsOf
  rw [nums_intItems] at hn
  subst hn
  rw [e] at hl
  have hsz : 0 < xs.size := by
    have := List.length_pos_iff.mpr hne
    simpa using this
  refine best_gtT hh hl hsz fun v h' tk hv hk => ?_
  obtain ⟨t, rfl⟩ := intItems_at hv
  obtain ⟨h1, h2⟩ := argBest_gt (numAt xs) (xs.size - 1)
  have e : numAt xs (argBest (fun i j => decide (numAt xs i > numAt xs j)) (xs.size - 1)) = maxI (List.map (fun x => x.fst) xs.toList) := by
    have h3 := maxI_mem hne
    have h4 : numAt xs (argBest (fun i j => decide (numAt xs i > numAt xs j)) (xs.size - 1)) ∈ List.map (fun x => x.fst) xs.toList := by
      rw [numAt_eq]; exact PySem.getD_mem (by rw [List.length_map, Array.length_toList]; omega)
    have h5 := h3.2 _ h4
    obtain ⟨j, hj, ej⟩ := mem_getD h3.1
    rw [List.length_map, Array.length_toList] at hj
    have h6 := h2 j (by omega)
    rw [numAt_eq] at h6
    have : maxI (List.map (fun x => x.fst) xs.toList) ≤ numAt xs (argBest (fun i j => decide (numAt xs i > numAt xs j)) (xs.size - 1)) := by rw [← ej]; exact h6
    omega
  rw [e]
  exact h h' tk t hk
theorem min_rawT (hh : A.handled = none) (hl : s.heap.IsTuple l its.toArray) (hi : IntsAre its ns) (hne : ns ≠ [])
    (h : ∀ h' tk t', (∀ b o, s.heap.get? b = some o → h'.get? b = some o) → Q (.int (minI ns) t') { s with heap := h', toks := tk }) : wpAny (model prog w) A (call (.builtin "min") [.ref l]) Q E s := by
  obtain ⟨xs, e⟩ := hi.allInts.items
  have hn : numsOf (intItems xs).toList = ns := by rw [← e]; exact hi.numsOf
  rw [nums_intItems] at hn
  subst hn
  rw [e] at hl
  have hsz : 0 < xs.size := by
    have := List.length_pos_iff.mpr hne
    simpa using this
  refine best_ltT hh hl hsz fun v h' tk hv hk => ?_
  obtain ⟨t, rfl⟩ := intItems_at hv
  obtain ⟨h1, h2⟩ := argBest_lt (numAt xs) (xs.size - 1)
  have e : numAt xs (argBest (fun i j => decide (numAt xs i < numAt xs j)) (xs.size - 1)) = minI (List.map (fun x => x.fst) xs.toList) := by
    have h3 := minI_mem hne
    have h4 : numAt xs (argBest (fun i j => decide (numAt xs i < numAt xs j)) (xs.size - 1)) ∈ List.map (fun x => x.fst) xs.toList := by
      rw [numAt_eq]; exact PySem.getD_mem (by rw [List.length_map, Array.length_toList]; omega)
    have h5 := h3.2 _ h4
    obtain ⟨j, hj, ej⟩ := mem_getD h3.1
    rw [List.length_map, Array.length_toList] at hj
    have h6 := h2 j (by omega)
    rw [numAt_eq xs j] at h6
    have : numAt xs (argBest (fun i j => decide (numAt xs i < numAt xs j)) (xs.size - 1)) ≤ minI (List.map (fun x => x.fst) xs.toList) := by rw [← ej]; exact h6
    omega
  rw [e]
  exact h h' tk t hk
theorem gatherT {vs : List Value} {Q : List Value → Shared → Prop} (hl : s.heap.IsTuple l vs.toArray)
    (h : Q vs { s with heap := (s.heap.push (seqObj "list" #[] 0)).update s.heap.objs.size (Obj.mapSeq (· ++ vs.toArray)) }) (hz : vs.length ≤ sizeLine) :
    wpAny (model prog w) A (collect (.ref l)) Q E s := by
  obtain ⟨o, ho, hc, n, hd⟩ := id hl
  unfold collect
  refine wpAny_bind (wpAny_runValue (codeAny_builtin PyProof.Rows.entry_proto_collect' ?_))
  show wpAny _ _ (do again (.builtin "list.__iadd__" ⟨[← newList [], .ref l], []⟩)) _ _ s
  refine wpAny_bind (wpAny_newList (wpAny_pure ⟨Code.quiet_builtin _ (by decide +kernel), codeAny_builtin PyProof.Rows.entry_list_iadd' ?_⟩))
  show wpAny _ _ (Builtin.List.listExtendWith (.ref s.heap.objs.size) (.ref l) (.ref s.heap.objs.size)) _ _ { s with heap := s.heap.push (seqObj "list" #[] 0) }
  unfold Builtin.List.listExtendWith
  have ho' : (s.heap.push (seqObj "list" #[] 0)).get? l = some o := Heap.get?_push_of_some _ ho
  refine wpAny_bind (wpAny_typeOf (T := "tuple") ⟨o, ho', hc⟩ ?_)
  rw [if_pos (by have ht : (Value.type "tuple" == Value.type "tuple") = true := by rfl
                 rw [ht]; simp)]
  refine wpAny_bind (PyProof.Rows.listItems_at ho' hd ?_)
  refine wpAny_bind (PyProof.Rows.listItems_at (xs := #[]) (n := 0) (Heap.get?_push_size _ rfl) rfl ?_)
  rw [if_neg (by simp)]
  refine wpAny_bind (PyProof.Rows.listUpdate_at (xs := #[]) (n := 0) (Heap.get?_push_size _ rfl) rfl ?_ (Nat.zero_le _) (by show (#[] ++ vs.toArray).size ≤ sizeLine + 1; simp only [Array.size_append, List.size_toArray, List.length_nil]; omega))
  refine wpAny_pure ?_
  show wpAny (model prog w) A (do
      let o ← load s.heap.objs.size
      match o.data with
      | .seq xs _ => pure xs.toList
      | _ => unsupported "internal:collect") Q E { s with heap := (s.heap.push (seqObj "list" #[] 0)).update s.heap.objs.size (Obj.mapSeq (· ++ vs.toArray)) }
  refine wpAny_bind (wpAny_load (PyProof.Rows.get?_update_seq (Heap.get?_push_size _ rfl) _) ?_)
  show wpAny _ _ (pure ((#[] : Array Value) ++ vs.toArray).toList) Q E _
  rw [show ((#[] : Array Value) ++ vs.toArray).toList = vs by simp]
  exact wpAny_pure h
open PyProof.Rows in
theorem sortedT {vs : List Value} {ltv : Value → Value → Bool} {Q : Value → Shared → Prop} (O : SrtO.Swo ltv) (hl : s.heap.IsTuple l vs.toArray) (hz : vs.length ≤ sizeLine)
    (hS : 2 ≤ vs.length → ∀ (h₁ : Heap) (a : Addr), SrtO.SortableO prog w A.in1.in1 { s with heap := h₁ } a vs ltv)
    (h : ∀ out : List Value, SrtO.Srtd ltv out → SrtO.Stb ltv out vs → Q (.ref (s.heap.objs.size + 1)) { s with heap := sortedAll s.heap vs out.toArray }) :
    wpAny (model prog w) A (call (.builtin "sorted") [.ref l]) Q E s := by
  refine Calls.call_function_entry kind_sorted plain_sorted entry_sorted (args_sorted1 _) ?_
  unfold Builtin.«sorted»
  refine wpAny_bind (m := checkCount "sorted" 1 1 _) (wpAny_pure ?_)
  refine wpAny_bind (gatherT hl ?_ hz)
  refine wpAny_bind (wpAny_newList ?_ hz)
  have hsz : ((s.heap.push (seqObj "list" #[] 0)).update s.heap.objs.size (Obj.mapSeq (· ++ vs.toArray))).objs.size = s.heap.objs.size + 1 := by
    rw [Heap.size_update, Heap.size_push]
  have hoL : (((s.heap.push (seqObj "list" #[] 0)).update s.heap.objs.size (Obj.mapSeq (· ++ vs.toArray))).push (seqObj "list" vs.toArray 0)).get? (s.heap.objs.size + 1) = some (seqObj "list" vs.toArray 0) := by
    rw [← hsz]; exact Heap.get?_push_size _ rfl
  show wpAny _ _ _ _ _ { s with heap := ((s.heap.push (seqObj "list" #[] 0)).update s.heap.objs.size (Obj.mapSeq (· ++ vs.toArray))).push (seqObj "list" vs.toArray 0) }
  rw [hsz]
  refine wpAny_bind (wpAny_holding (wpAny_call_entry slot_list_sort ⟨_, hoL, rfl⟩ entry_list_sort (SrtO.list_sort_ord O hoL hz (fun h2 => hS h2 _ _) fun out hs hb => ⟨_, rfl, ?_⟩) (args_list_sort _)))
  exact wpAny_pure ⟨_, rfl, h out hs hb⟩
end

section
variable {X : Cx}
theorem cr_maxT (hc : X.calm = true) : CallR X (.builtin "max") (fun vs H Q => ∃ (a : Addr) (ns : List Int), vs = [V.ref a] ∧ SqT X.K H a (ns.map V.int) ∧ ns ≠ [] ∧ Q (.int (maxI ns)) H) := by
  intro pins s σ H vs us Q I r h
  obtain ⟨a, ns, rfl, hs, hne, q⟩ := h
  obtain ⟨its, rv, hl, _⟩ := I.tuple hs
  rw [Vals.ref1 r]
  exact max_rawT (I.ok.hd hc) hl rv.ints hne fun h' tk t' hk => ⟨.int _, H, I.kept hk, ⟨_, rfl⟩, q⟩
theorem cr_minT (hc : X.calm = true) : CallR X (.builtin "min") (fun vs H Q => ∃ (a : Addr) (ns : List Int), vs = [V.ref a] ∧ SqT X.K H a (ns.map V.int) ∧ ns ≠ [] ∧ Q (.int (minI ns)) H) := by
  intro pins s σ H vs us Q I r h
  obtain ⟨a, ns, rfl, hs, hne, q⟩ := h
  obtain ⟨its, rv, hl, _⟩ := I.tuple hs
  rw [Vals.ref1 r]
  exact min_rawT (I.ok.hd hc) hl rv.ints hne fun h' tk t' hk => ⟨.int _, H, I.kept hk, ⟨_, rfl⟩, q⟩
theorem cr_sortedT : CallR X (.builtin "sorted") (fun vs H Q => ∃ (a : Addr) (ns : List Int), vs = [V.ref a] ∧ SqT X.K H a (ns.map V.int) ∧
    ∀ (ns' : List Int) (p : Addr), ns'.Perm ns → ns'.Pairwise (· ≤ ·) → H p = none → Q (.ref p) (upd H p (.lst (ns'.map V.int)))) := by
  intro pins s σ H vs us Q I r h
  obtain ⟨a, ns, rfl, hs, q⟩ := h
  obtain ⟨its, rv, hl, hz⟩ := I.tuple hs
  rw [Vals.ref1 r]
  have hi := rv.ints
  refine sortedT SrtO.swo_int hl (by rw [← rv.length]; exact hz) (fun h2 h₁ a' => SrtO.ints_sortable hi h2) fun out h1 h2 => ?_
  obtain ⟨k1, k2, k3⟩ := SrtO.ints_out hi h1 h2
  obtain ⟨ep, he'⟩ := PyProof.Rows.sortedAll_at s.heap its out.toArray
  have hlen : ((out.map SrtO.iv).map V.int).length ≤ sizeLine := by
    rw [List.length_map, k2.length_eq]
    rw [List.length_map] at hz
    exact hz
  exact ⟨.ref _, upd H (s.heap.objs.size + 1) (.lst ((out.map SrtO.iv).map V.int)), I.laid (t' := s.toks) (fun _ _ => PyProof.Rows.sortedAll_old) (Nat.le_succ _) ⟨hlen, out, ep, vals_of_ints k1, he'⟩, rfl, q _ _ k2 k3 (I.hok.fresh (Nat.le_succ _))⟩

/-- ints of a list, or of a tuple -/
def intsQ (G : GHp) : D → Option (List Int)
  | .tup ds => intsOf ds
  | x => intsG G x
theorem intsQ_of {K : PySem.W.Frag} {H : Hp} {G : GHp} {Z : Addr → Bool} {x : D} {v : V} {ns : List Int} (ok : Ok K H G Z) (r : Rep K (U H G Z) x v) (h : intsQ G x = some ns) : ∃ a, v = .ref a ∧ (H a = some (.lst (ns.map V.int)) ∨ SqT K H a (ns.map V.int)) := by
  cases x with
  | tup ds =>
    cases r with
    | tup q rr =>
      have h : intsOf ds = some ns := h
      rw [intsOf_eq h] at rr
      refine ⟨_, rfl, .inr ?_⟩
      rw [rr.ints] at q
      exact SqT.mono (fun a o e => (U_some e).2.2) q
  | _ => obtain ⟨a, e, q⟩ := intsG_of (x := _) ok r h; exact ⟨a, e, .inl q⟩
def dOnIntsQ (C : List Int → Prop) (g : List Int → D) (x : D) (G : GHp) (Q : DK) : Prop := match intsQ G x with
  | some ns => C ns ∧ Q (g ns) G
  | none => False
theorem dcall_maxQ (hc : X.calm = true) : DCall X (.builtin "max") (dR1 (dOnIntsQ (fun ns => ns ≠ []) fun ns => .int (maxI ns))) :=
  dcall1 (CallR.or (cr_max hc) (cr_maxT hc)) fun x v H G Z Q Q0 ok r h k => by
    unfold dOnIntsQ at h
    split at h
    · next ns e =>
      obtain ⟨a, rfl, ha | ha⟩ := intsQ_of ok r e
      · refine .inl ⟨a, ns, rfl, SqL.of ha, List.length_pos_iff.mpr h.1, fun m hm hle => ?_⟩
        have e : m = maxI ns := by
          have h1 := maxI_mem h.1
          have h2 := hle _ h1.1
          have h3 := h1.2 _ hm
          omega
        subst e
        exact k _ _ _ _ h.2 .refl ok (.int _)
      · exact .inr ⟨a, ns, rfl, ha, h.1, k _ _ _ _ h.2 .refl ok (.int _)⟩
    · exact h.elim
theorem dcall_minQ (hc : X.calm = true) : DCall X (.builtin "min") (dR1 (dOnIntsQ (fun ns => ns ≠ []) fun ns => .int (minI ns))) :=
  dcall1 (CallR.or (cr_min hc) (cr_minT hc)) fun x v H G Z Q Q0 ok r h k => by
    unfold dOnIntsQ at h
    split at h
    · next ns e =>
      obtain ⟨a, rfl, ha | ha⟩ := intsQ_of ok r e
      · refine .inl ⟨a, ns, rfl, SqL.of ha, List.length_pos_iff.mpr h.1, fun m hm hle => ?_⟩
        have e : m = minI ns := by
          have h1 := minI_mem h.1
          have h2 := hle _ h1.1
          have h3 := h1.2 _ hm
          omega
        subst e
        exact k _ _ _ _ h.2 .refl ok (.int _)
      · exact .inr ⟨a, ns, rfl, ha, h.1, k _ _ _ _ h.2 .refl ok (.int _)⟩
    · exact h.elim
def dSortedQ (m : Bool) (x : D) (G : GHp) (Q : DK) : Prop := match intsQ G x with
  | some ns => lcEnd m ((sortI ns).map .int) G Q
  | none => False
theorem dcall_sortedQ (m : Bool) : DCall X (.builtin "sorted") (dR1 (dSortedQ m)) :=
  dcall1 (CallR.or cr_sortedI cr_sortedT) fun x v H G Z Q Q0 ok r h k => by
    unfold dSortedQ at h
    split at h
    · next ns e =>
      obtain ⟨a, rfl, ha⟩ := intsQ_of ok r e
      have fin : ∀ (ns' : List Int) (p : Addr), ns'.Perm ns → ns'.Pairwise (· ≤ ·) → H p = none → Q (.ref p) (upd H p (.lst (ns'.map V.int))) := fun ns' p hp hs hn => by
        have e : ns' = sortI ns := sorted_unique (hp.trans (sortI_perm ns).symm) hs (sortI_sorted ns)
        subst e
        exact lcEnd_of ok hn (Reps.of_ints _) h k
      rcases ha with ha | ha
      · exact .inl ⟨a, ns, rfl, SqL.of ha, fin⟩
      · exact .inr ⟨a, ns, rfl, ha, fin⟩
    · exact h.elim
end
end DL
set_option Elab.async false
set_option linter.all false
set_option maxRecDepth 100000
set_option maxHeartbeats 1000000
/-! DL, part 9: == and != of anything whose data is told, tracked lists within tracked lists too. -/
namespace DL
open PySem PySem.Spec L2

mutual
inductive DD (G : GHp) : D → PyData → Prop
  | non : DD G .non .none
  | bl (b : Bool) : DD G (.bl b) (.bool b)
  | int (i : Int) : DD G (.int i) (.int i)
  | str (x : Str) : DD G (.str x) (.str x)
  | tup {ds : List D} {ps : List PyData} : DDs G ds ps → DD G (.tup ds) (.tuple ps)
  | lst {ds : List D} {ps : List PyData} : DDs G ds ps → DD G (.lst ds) (.list ps)
  | ref {a : Addr} {ds : List D} {ps : List PyData} : G a = some (.lst ds) → DDs G ds ps → DD G (.ref a) (.list ps)
inductive DDs (G : GHp) : List D → List PyData → Prop
  | nil : DDs G [] []
  | cons {d : D} {p : PyData} {ds : List D} {ps : List PyData} : DD G d p → DDs G ds ps → DDs G (d :: ds) (p :: ps)
end
section
variable {K : PySem.W.Frag} {H : Hp} {G : GHp} {Z : Addr → Bool}
mutual
theorem DD.dp (ok : Ok K H G Z) : ∀ {d : D} {p : PyData} {v : V}, DD G d p → Rep K (U H G Z) d v → Dp K H v p
  | _, _, _, .non, r => by cases r; exact .non
  | _, _, _, .bl b, r => by cases r; exact .bl b
  | _, _, _, .int b, r => by cases r; exact .int b
  | _, _, _, .str b, r => by cases r; exact .str b
  | _, _, _, .tup h, r => by
    cases r with
    | tup q rr => exact .tup (SqT.mono U_le q) (DDs.dp ok h rr)
  | _, _, _, .lst h, r => by
    cases r with
    | lst q rr => exact .lst (SqL.of (U_le _ _ q)) (DDs.dp ok h rr)
  | _, _, _, .ref e h, r => by
    cases r with
    | ref a =>
      obtain ⟨_, xs, h1, h2⟩ := ok.ok _ _ e
      exact .lst (SqL.of h1) (DDs.dp ok h h2)
theorem DDs.dp (ok : Ok K H G Z) : ∀ {ds : List D} {ps : List PyData} {vs : List V}, DDs G ds ps → Reps K (U H G Z) ds vs → DpAll K H vs ps
  | _, _, _, .nil, r => by cases r; exact .nil
  | _, _, _, .cons h t, r => by
    cases r with
    | cons r rr => exact .cons (DD.dp ok h r) (DDs.dp ok t rr)
end
end
def dEqQ : DR2 := fun x y G Q => match x, y with
  | .int i, .int j => Q (.bl (decide (i = j))) G
  | .str i, .str j => Q (.bl (decide (i = j))) G
  | .bl i, .bl j => Q (.bl (decide (i = j))) G
  | x, y => ∃ p q, DD G x p ∧ DD G y q ∧ SeqAt.shaped p = true ∧ SeqAt.shaped q = true ∧ Q (.bl (PyData.eqv p q)) G
def dNeQ : DR2 := fun x y G Q => match x, y with
  | .int i, .int j => Q (.bl (!decide (i = j))) G
  | .str i, .str j => Q (.bl (!decide (i = j))) G
  | .bl i, .bl j => Q (.bl (!decide (i = j))) G
  | x, y => ∃ p q, DD G x p ∧ DD G y q ∧ SeqAt.shaped p = true ∧ SeqAt.shaped q = true ∧ Q (.bl (!PyData.eqv p q)) G
section
variable {X : Cx}
theorem dop_eqQ (hu : X.A.units + 64 < cLine) : DOp X (compareOp .Eq) dEqQ :=
  OpR.imp (OpR.or op_eq (op_eqD hu)) fun v u H Q ⟨x, y, G, Z, Q0, ok, r1, r2, h, k⟩ => by
    have gen : (∃ p q, DD G x p ∧ DD G y q ∧ SeqAt.shaped p = true ∧ SeqAt.shaped q = true ∧ Q0 (.bl (PyData.eqv p q)) G) → rEqD X.K v u H Q :=
      fun ⟨p, q, e1, e2, s1, s2, h⟩ => ⟨p, q, e1.dp ok r1, e2.dp ok r2, s1, s2, k _ _ _ _ h .refl ok (.bl _)⟩
    cases r1 with
    | int i =>
      cases r2 with
      | int j => exact .inl ⟨rfl, by have := k _ _ _ _ h .refl ok (.bl _); simpa using this⟩
      | _ => exact .inr (gen h)
    | str i =>
      cases r2 with
      | str j => exact .inl ⟨rfl, by have := k _ _ _ _ h .refl ok (.bl _); simpa using this⟩
      | _ => exact .inr (gen h)
    | bl i =>
      cases r2 with
      | bl j => exact .inl ⟨rfl, by have := k _ _ _ _ h .refl ok (.bl _); simpa using this⟩
      | _ => exact .inr (gen h)
    | _ => cases r2 <;> exact .inr (gen h)
theorem dop_neQ (hu : X.A.units + 64 < cLine) : DOp X (compareOp .NotEq) dNeQ :=
  OpR.imp (OpR.or op_ne (op_neD hu)) fun v u H Q ⟨x, y, G, Z, Q0, ok, r1, r2, h, k⟩ => by
    have gen : (∃ p q, DD G x p ∧ DD G y q ∧ SeqAt.shaped p = true ∧ SeqAt.shaped q = true ∧ Q0 (.bl (!PyData.eqv p q)) G) → rNeD X.K v u H Q :=
      fun ⟨p, q, e1, e2, s1, s2, h⟩ => ⟨p, q, e1.dp ok r1, e2.dp ok r2, s1, s2, k _ _ _ _ h .refl ok (.bl _)⟩
    cases r1 with
    | int i =>
      cases r2 with
      | int j => exact .inl ⟨rfl, by have := k _ _ _ _ h .refl ok (.bl _); simpa using this⟩
      | _ => exact .inr (gen h)
    | str i =>
      cases r2 with
      | str j => exact .inl ⟨rfl, by have := k _ _ _ _ h .refl ok (.bl _); simpa using this⟩
      | _ => exact .inr (gen h)
    | bl i =>
      cases r2 with
      | bl j => exact .inl ⟨rfl, by have := k _ _ _ _ h .refl ok (.bl _); simpa using this⟩
      | _ => exact .inr (gen h)
    | _ => cases r2 <;> exact .inr (gen h)
end
/-! shapes -/
/-- laid with depth n at most -/
def Shp (n : Nat) (p : PyData) : Prop := p.canLay0 = true ∧ p.depth ≤ n
def Shps (n : Nat) (ps : List PyData) : Prop := PyData.canLayAll0 ps = true ∧ PyData.depthAll ps ≤ n
theorem Shp.ok {n : Nat} {p : PyData} (h : Shp n p) (hn : n ≤ 64) : SeqAt.shaped p = true := by
  unfold SeqAt.shaped
  rw [Bool.and_eq_true_iff]
  exact ⟨h.1, decide_eq_true (by have := h.2; omega)⟩
theorem Shp.int {n : Nat} (i : Int) : Shp n (.int i) := ⟨by simp [PyData.canLay0], by simp [PyData.depth]⟩
theorem Shp.bl {n : Nat} (i : Bool) : Shp n (.bool i) := ⟨by simp [PyData.canLay0], by simp [PyData.depth]⟩
theorem Shp.non {n : Nat} : Shp n .none := ⟨by simp [PyData.canLay0], by simp [PyData.depth]⟩
theorem Shps.nil {n : Nat} : Shps n [] := ⟨by simp [PyData.canLayAll0], by simp [PyData.depthAll]⟩
theorem Shps.cons {n : Nat} {p : PyData} {ps : List PyData} (h : Shp n p) (t : Shps n ps) : Shps n (p :: ps) :=
  ⟨by simp only [PyData.canLayAll0, h.1, t.1, Bool.and_self], by have := h.2; have := t.2; simp only [PyData.depthAll]; omega⟩
theorem Shps.of {n : Nat} : ∀ {ps : List PyData}, (∀ p ∈ ps, Shp n p) → Shps n ps
  | [], _ => .nil
  | p :: r, h => .cons (h p List.mem_cons_self) (Shps.of fun q hq => h q (List.mem_cons_of_mem _ hq))
theorem Shps.list {n : Nat} {ps : List PyData} (h : Shps n ps) : Shp (n + 1) (.list ps) := ⟨by simpa only [PyData.canLay0] using h.1, by have := h.2; simp only [PyData.depth]; omega⟩
theorem Shps.tuple {n : Nat} {ps : List PyData} (h : Shps n ps) : Shp (n + 1) (.tuple ps) := ⟨by simpa only [PyData.canLay0] using h.1, by have := h.2; simp only [PyData.depth]; omega⟩
theorem Shps.ints {n : Nat} (ns : List Int) : Shps n (ns.map .int) := .of fun p hp => by
  obtain ⟨i, _, rfl⟩ := List.mem_map.mp hp
  exact .int i
theorem DDs.ints {G : GHp} : ∀ ns : List Int, DDs G (ns.map .int) (ns.map .int)
  | [] => .nil
  | n :: r => .cons (.int n) (DDs.ints r)
theorem eqv_nil_r : ∀ ps : List PyData, PyData.eqv (.list ps) (.list []) = ps.isEmpty
  | [] => by simp [PyData.eqv, PyData.eqvAll]
  | p :: r => by simp [PyData.eqv, PyData.eqvAll]
mutual
theorem DD.len {G : GHp} : ∀ {ds : List D} {ps : List PyData}, DDs G ds ps → ds.length = ps.length
  | _, _, .nil => rfl
  | _, _, .cons _ t => by simp [DD.len t]
end
/-- xs == [] -/
theorem eq_nilL {G : GHp} {Q : DK} {ds : List D} {ps : List PyData} (d : DDs G ds ps) (s : Shps 63 ps) (h : Q (.bl ds.isEmpty) G) : dEqQ (.lst ds) (.lst []) G Q :=
  ⟨_, _, .lst d, .lst .nil, s.list.ok (by decide), (Shps.nil (n := 0)).list.ok (by decide), by
    rw [eqv_nil_r]
    have e := DD.len d
    cases ds <;> cases ps <;> simp_all⟩
theorem eq_nilR {G : GHp} {Q : DK} {a : Addr} {ds : List D} {ps : List PyData} (e : G a = some (.lst ds)) (d : DDs G ds ps) (s : Shps 63 ps) (h : Q (.bl ds.isEmpty) G) : dEqQ (.ref a) (.lst []) G Q :=
  ⟨_, _, .ref e d, .lst .nil, s.list.ok (by decide), (Shps.nil (n := 0)).list.ok (by decide), by
    rw [eqv_nil_r]
    have e := DD.len d
    cases ds <;> cases ps <;> simp_all⟩
theorem ne_nilL {G : GHp} {Q : DK} {ds : List D} {ps : List PyData} (d : DDs G ds ps) (s : Shps 63 ps) (h : Q (.bl (!ds.isEmpty)) G) : dNeQ (.lst ds) (.lst []) G Q :=
  ⟨_, _, .lst d, .lst .nil, s.list.ok (by decide), (Shps.nil (n := 0)).list.ok (by decide), by
    rw [eqv_nil_r]
    have e := DD.len d
    cases ds <;> cases ps <;> simp_all⟩
theorem ne_nilR {G : GHp} {Q : DK} {a : Addr} {ds : List D} {ps : List PyData} (e : G a = some (.lst ds)) (d : DDs G ds ps) (s : Shps 63 ps) (h : Q (.bl (!ds.isEmpty)) G) : dNeQ (.ref a) (.lst []) G Q :=
  ⟨_, _, .ref e d, .lst .nil, s.list.ok (by decide), (Shps.nil (n := 0)).list.ok (by decide), by
    rw [eqv_nil_r]
    have e := DD.len d
    cases ds <;> cases ps <;> simp_all⟩
end DL
set_option linter.all false
set_option maxRecDepth 100000
namespace K73
open PySem PySem.Spec L2 DL
/-! bodies, printed by gen.py -/
/-- _law_box: 0 cell -/
def t_law_box : DTS :=
  (dRet (dLstM (dCons (dCB (dR2 dMax2R) (dCons (dC (.int 0)) (dCons (dOp (dI0 fun i j => .int (i - j)) (dVar 0) (dOp (dI CPow fun i j => .int (i ^ j.toNat)) (dC (.int 10)) (dC (.int 18)))) dNil))) (dCons (dOp (dI (fun _ j => 0 < j) fun i j => .int (i % j)) (dCB (dR1 dIntR) (dCons (dVar 0) dNil)) (dC (.int 2147483587))) (dCons (dC (.int 0)) dNil)))))
/-- _law_cell: 0 script, 1 k -/
def t_law_cell : DTS :=
  (dSeq (dIf (dTestB (dOp (dCmpR (fun i j => decide (i < j)) (fun a b => decide (a < b))) (dVar 1) (dCB (dR1 dLenR) (dCons (dVar 0) dNil)))) (dRet (dOp dIxR (dVar 0) (dVar 1))) dNext)
  (dRet (dOp dAddR (dOp (dI MulOk fun i j => .int (i * j)) (dC (.int 8087)) (dVar 1)) (dC (.int 103)))))
/-- _law_take: 0 box, 1 many, 2 digit, 3 one, 4 other -/
def t_law_take : DTS :=
  (dSeq (dIf (dTestB (dOp (dCmpR (fun i j => decide (j < i)) (fun a b => decide (b < a))) (dOp dIxR (dVar 0) (dC (.int 0))) (dC (.int 0)))) (dSeq (dAsg (dOp (dI (fun _ j => 0 < j) fun i j => .int (i % j)) (dCB (dR1 dIntR) (dCons (dOp dIxR (dVar 0) (dC (.int 0))) dNil)) (dVar 1)) (.nm 2))
  (dSeq (dSub (dOp (dI CDivW fun i j => .int (i / j)) (dOp dIxR (dVar 0) (dC (.int 0))) (dVar 1)) (dVar 0) (dC (.int 0)))
  (dRet (dVar 2)))) dNext)
  (dSeq (dSub (dOp dAddR (dOp dIxR (dVar 0) (dC (.int 2))) (dC (.int 1))) (dVar 0) (dC (.int 2)))
  (dSeq (dAsg (dOp (dI (fun _ j => 0 < j) fun i j => .int (i % j)) (dCB (dR1 dIntR) (dCons (dOp (dI CPow fun i j => .int (i ^ j.toNat)) (dOp dAddR (dOp dAddR (dOp dIxR (dVar 0) (dC (.int 1))) (dOp (dI MulOk fun i j => .int (i * j)) (dC (.int 7001)) (dOp dIxR (dVar 0) (dC (.int 2))))) (dC (.int 37))) (dC (.int 5))) dNil)) (dC (.int 2147483647))) (.nm 3))
  (dSeq (dAsg (dOp (dI (fun _ j => 0 < j) fun i j => .int (i % j)) (dCB (dR1 dIntR) (dCons (dOp (dI CPow fun i j => .int (i ^ j.toNat)) (dOp dAddR (dOp (dI MulOk fun i j => .int (i * j)) (dOp dIxR (dVar 0) (dC (.int 1))) (dOp dIxR (dVar 0) (dC (.int 2)))) (dC (.int 65003))) (dC (.int 3))) dNil)) (dC (.int 2147483629))) (.nm 4))
  (dRet (dOp (dI (fun _ j => 0 < j) fun i j => .int (i % j)) (dOp (dI CDivW fun i j => .int (i / j)) (dOp dAddR (dOp (dI MulOk fun i j => .int (i * j)) (dVar 3) (dC (.int 2147483629))) (dVar 4)) (dC (.int 8))) (dVar 1)))))))
/-- _law_distances: 0 box, 1 reach, 2 many, 3 found, 4 k, 5 last, 6 step, 7 spot -/
def t_law_distances (K : PySem.W.Frag) (sp_law_take : DSp) : DTS :=
  (dSeq (dAsg (dOp dIxR (dLst (dCons (dOp dAddR (dC (.int 1)) (dCall sp_law_take [] (dCons (dVar 0) (dCons (dC (.int 9)) dNil)))) (dCons (dOp dAddR (dC (.int 1)) (dCall sp_law_take [] (dCons (dVar 0) (dCons (dC (.int 100)) dNil)))) dNil))) (dCB (dR1 dIntR) (dCons (dOp dEqQ (dCall sp_law_take [] (dCons (dVar 0) (dCons (dC (.int 8)) dNil))) (dC (.int 0))) dNil))) (.nm 2))
  (dSeq (dAsg (dLstM (dCons (dOp dIxR (dLst (dCons (dCall sp_law_take [] (dCons (dVar 0) (dCons (dC (.int 60)) dNil))) (dCons (dCall sp_law_take [] (dCons (dVar 0) (dCons (dC (.int 100000)) dNil))) (dCons (dC (.int 0)) (dCons (dC (.int 99999)) dNil))))) (dCall sp_law_take [] (dCons (dVar 0) (dCons (dC (.int 4)) dNil)))) dNil)) (.nm 3))
  (dSeq (dFor (dRng1 (dOp (dI0 fun i j => .int (i - j)) (dVar 2) (dC (.int 1)))) (.nm 4) (dSeq (dAsg (dOp dIxR (dVar 3) (dCall sp_law_take [] (dCons (dVar 0) (dCons (dCB (dR1 dLenR) (dCons (dVar 3) dNil)) dNil)))) (.nm 5))
  (dSeq (dAsg (dOp dIxR (dLst (dCons (dOp (dI MulOk fun i j => .int (i * j)) (dC (.int 2)) (dVar 1)) (dCons (dOp dAddR (dOp (dI MulOk fun i j => .int (i * j)) (dC (.int 2)) (dVar 1)) (dC (.int 1))) (dCons (dC (.int 0)) (dCons (dCall sp_law_take [] (dCons (dVar 0) (dCons (dC (.int 30)) dNil))) (dCons (dCall sp_law_take [] (dCons (dVar 0) (dCons (dC (.int 99999)) dNil))) dNil)))))) (dCall sp_law_take [] (dCons (dVar 0) (dCons (dC (.int 5)) dNil)))) (.nm 6))
  (dSeq (dAsg (dIfE (dTestB (dOp dEqQ (dCall sp_law_take [] (dCons (dVar 0) (dCons (dC (.int 2)) dNil))) (dC (.int 0)))) (dOp dAddR (dVar 5) (dVar 6)) (dOp (dI0 fun i j => .int (i - j)) (dVar 5) (dVar 6))) (.nm 7))
  (dDrop (dMtL dAppend (dVar 3) (dCons (dIfE (dTestB (dChain (dCmpR (fun i j => decide (i ≤ j)) (fun a b => !decide (b < a))) (dCmpR (fun i j => decide (i ≤ j)) (fun a b => !decide (b < a))) (dC (.int 0)) (dVar 7) (dC (.int 99999)))) (dVar 7) (dCall sp_law_take [] (dCons (dVar 0) (dCons (dC (.int 60)) dNil)))) dNil)))))))
  (dGhost K (dRet (dVar 3))))))
/-- _law_sorted: 0 numbers, 1 found, 2 number, 3 ahead, 4 one -/
def t_law_sorted : DTS :=
  (dSeq (dAsg (dLst dNil) (.nm 1))
  (dSeq (dFor (dSeqI (dVar 0)) (.nm 2) (dSeq (dAsg (dLc false (dSeqI (dVar 1)) (.nm 4) (dTestB (dOp (dCmpR (fun i j => decide (i ≤ j)) (fun a b => !decide (b < a))) (dVar 4) (dVar 2))) (dVar 4) [4]) (.nm 3))
  (dAsg (dOp dAddR (dOp dAddR (dVar 3) (dLst (dCons (dVar 2) dNil))) (dLc false (dSeqI (dVar 1)) (.nm 4) (dTestB (dOp (dCmpR (fun i j => decide (j < i)) (fun a b => decide (b < a))) (dVar 4) (dVar 2))) (dVar 4) [4])) (.nm 1))))
  (dRet (dVar 1))))
/-- _law_due: 0 distances, 1 reach, 2 worths, 3 apart, 4 group, 5 distance -/
def t_law_due (K : PySem.W.Frag) (sp_law_sorted : DSp) : DTS :=
  (dSeq (dPar 2 3 (dCons (dLstM dNil) (dCons (dLstM dNil) dNil)))
  (dSeq (dAsg (dLstM dNil) (.nm 4))
  (dSeq (dFor (dSeqI (dOp dAddR (dCall sp_law_sorted [] (dCons (dVar 0) dNil)) (dLst (dCons (dC .non) dNil)))) (.nm 5) (dSeq (dIf (dAnd (dTestB (dOp dNeQ (dVar 4) (dLst dNil))) (dOr (dTestB (dOp dIsR (dVar 5) (dC .non))) (dTestB (dOp (dCmpR (fun i j => decide (j < i)) (fun a b => decide (b < a))) (dVar 5) (dOp dAddR (dOp dIxR (dVar 4) (dC (.int 0))) (dOp (dI MulOk fun i j => .int (i * j)) (dC (.int 2)) (dVar 1))))))) (dSeq (dDrop (dMtL dAppend (dVar 2) (dCons (dOp (dI CDivW fun i j => .int (i / j)) (dOp dAddR (dOp dIxR (dVar 4) (dC (.int 0))) (dOp dIxR (dVar 4) (dUn dNeg (dC (.int 1))))) (dC (.int 2))) dNil)))
  (dSeq (dDrop (dMtL dAppend (dVar 3) (dCons (dOp dIxR (dVar 4) (dC (.int 0))) dNil)))
  (dAsg (dLstM dNil) (.nm 4)))) dNext)
  (dDrop (dMtL dAppend (dVar 4) (dCons (dVar 5) dNil)))))
  (dGhost K (dRet (dTup (dCons (dVar 2) (dCons (dVar 3) dNil))))))))
/-- is_list: 0 thing, 1 low, 2 high -/
def t_is_list : DTS :=
  (dRet (dAndV (dIsiT [.lst, .tup] (dVar 0)) (dChain (dCmpR (fun i j => decide (i ≤ j)) (fun a b => !decide (b < a))) (dCmpR (fun i j => decide (i ≤ j)) (fun a b => !decide (b < a))) (dVar 1) (dCB (dR1 dLenR) (dCons (dVar 0) dNil)) (dVar 2))))
/-- is_plain: 0 thing -/
def t_is_plain : DTS :=
  (dRet (dAndV (dCB (dR2 dIsiR) (dCons (dVar 0) (dCons (dC (.ty .int)) dNil))) (dNotV (dCB (dR2 dIsiR) (dCons (dVar 0) (dCons (dC (.ty .bool)) dNil))))))
/-- is_whole: 0 thing, 1 low, 2 high -/
def t_is_whole (sp_is_plain : DSp) : DTS :=
  (dRet (dAndV (dCall sp_is_plain [] (dCons (dVar 0) dNil)) (dChain (dCmpR (fun i j => decide (i ≤ j)) (fun a b => !decide (b < a))) (dCmpR (fun i j => decide (i ≤ j)) (fun a b => !decide (b < a))) (dVar 1) (dVar 0) (dVar 2))))
/-- need_distance: 0 number -/
def t_need_distance (sp_is_whole : DSp) : DTS :=
  (dIf (dNot (dTest (dCall sp_is_whole [] (dCons (dVar 0) (dCons (dC (.int 0)) (dCons (dC (.int 99999)) dNil)))))) dNever dNext)
/-- need_distances: 0 distances, 1 distance -/
def t_need_distances (sp_is_list : DSp) (sp_need_distance : DSp) : DTS :=
  (dSeq (dIf (dNot (dTest (dCall sp_is_list [] (dCons (dVar 0) (dCons (dC (.int 1)) (dCons (dC (.int 100)) dNil)))))) dNever dNext)
  (dFor (dSeqI (dVar 0)) (.nm 1) (dDrop (dCall sp_need_distance [] (dCons (dVar 1) dNil)))))
/-- groups_of: 0 distances, 1 reach, 2 found, 3 distance -/
def t_groups_of (K : PySem.W.Frag) : DTS :=
  (dSeq (dAsg (dLstM dNil) (.nm 2))
  (dSeq (dFor (dSeqI (dCB (dR1 (dSortedQ false)) (dCons (dVar 0) dNil))) (.nm 3) (dIf (dAnd (dTestB (dOp dNeQ (dVar 2) (dLst dNil))) (dTestB (dOp (dCmpR (fun i j => decide (i ≤ j)) (fun a b => !decide (b < a))) (dOp (dI0 fun i j => .int (i - j)) (dVar 3) (dOp dIxR (dOp dIxR (dVar 2) (dUn dNeg (dC (.int 1)))) (dC (.int 0)))) (dOp (dI MulOk fun i j => .int (i * j)) (dC (.int 2)) (dVar 1))))) (dDrop (dMtL dAppend (dOp dIxR (dVar 2) (dUn dNeg (dC (.int 1)))) (dCons (dVar 3) dNil))) (dDrop (dMtL dAppend (dVar 2) (dCons (dLstM (dCons (dVar 3) dNil)) dNil)))))
  (dGhost K (dRet (dVar 2)))))
/-- covering: 0 distances, 1 reach, 2 groups, 3 group -/
def t_covering (sp_groups_of : DSp) : DTS :=
  (dSeq (dAsg (dCall sp_groups_of [] (dCons (dVar 0) (dCons (dVar 1) dNil))) (.nm 2))
  (dRet (dTup (dCons (dLc true (dSeqI (dVar 2)) (.nm 3) dYes (dOp (dI CDivW fun i j => .int (i / j)) (dOp dAddR (dOp dIxR (dVar 3) (dC (.int 0))) (dOp dIxR (dVar 3) (dUn dNeg (dC (.int 1))))) (dC (.int 2))) [3]) (dCons (dLc false (dSeqI (dVar 2)) (.nm 3) dYes (dOp dIxR (dVar 3) (dC (.int 0))) [3]) dNil)))))
/-- fewest_worths: 0 distances, 1 reach -/
def t_fewest_worths (sp_need_distances : DSp) (sp_need_distance : DSp) (sp_covering : DSp) : DTS :=
  (dSeq (dDrop (dCall sp_need_distances [] (dCons (dVar 0) dNil)))
  (dSeq (dDrop (dCall sp_need_distance [] (dCons (dVar 1) dNil)))
  (dRet (dCall sp_covering [] (dCons (dVar 0) (dCons (dVar 1) dNil))))))
/-- _law_same: 0 given, 1 due, 2 k -/
def t_law_same (sp_law_same : DSp) : DTS :=
  (dSeq (dIf (dOr (dTestB (dOp dIsR (dVar 1) (dC .non))) (dTest (dCB (dR2 dIsiR) (dCons (dVar 1) (dCons (dC (.ty .bool)) dNil))))) (dRet (dIfE (dTestB (dOp dIsR (dVar 1) (dC .non))) (dOp dIsR (dVar 0) (dC .non)) (dAndV (dCB (dR2 dIsiR) (dCons (dVar 0) (dCons (dC (.ty .bool)) dNil))) (dOp dEqQ (dOp dIsR (dVar 0) (dC (.bl true))) (dOp dIsR (dVar 1) (dC (.bl true))))))) dNext)
  (dSeq (dIf (dTest (dCB (dR2 dIsiR) (dCons (dVar 1) (dCons (dC (.ty .int)) dNil)))) (dRet (dAndV (dCB (dR2 dIsiR) (dCons (dVar 0) (dCons (dC (.ty .int)) dNil))) (dAndV (dNotV (dCB (dR2 dIsiR) (dCons (dVar 0) (dCons (dC (.ty .bool)) dNil)))) (dOp dEqQ (dOp (dI0 fun i j => .int (i - j)) (dCB (dR1 dIntR) (dCons (dVar 0) dNil)) (dVar 1)) (dC (.int 0)))))) dNext)
  (dSeq (dIf (dTest (dCB (dR2 dIsiR) (dCons (dVar 1) (dCons (dC (.ty .str)) dNil)))) (dSeq (dIf (dOr (dNot (dTest (dCB (dR2 dIsiR) (dCons (dVar 0) (dCons (dC (.ty .str)) dNil))))) (dTestB (dOp dNeQ (dCB (dR1 dLenR) (dCons (dVar 0) dNil)) (dCB (dR1 dLenR) (dCons (dVar 1) dNil))))) (dRet (dC (.bl false))) dNext)
  (dRet (dOp dEqQ (dLc false (dRng1 (dCB (dR1 dLenR) (dCons (dVar 1) dNil))) (.nm 2) (dTestB (dOp dNeQ (dSl (dSlR false) (dVar 0) (dPart (dVar 2)) (dPart (dOp dAddR (dVar 2) (dC (.int 1))))) (dOp dIxR (dVar 1) (dVar 2)))) (dVar 2) [2]) (dLst dNil)))) dNext)
  (dSeq (dIf (dOr (dTestB (dOp dNeQ (dCB (dR2 dIsiR) (dCons (dVar 0) (dCons (dC (.ty .lst)) dNil))) (dCB (dR2 dIsiR) (dCons (dVar 1) (dCons (dC (.ty .lst)) dNil))))) (dTestB (dOp dNeQ (dCB (dR2 dIsiR) (dCons (dVar 0) (dCons (dC (.ty .tup)) dNil))) (dCB (dR2 dIsiR) (dCons (dVar 1) (dCons (dC (.ty .tup)) dNil)))))) (dRet (dC (.bl false))) dNext)
  (dRet (dAndV (dOp dEqQ (dCB (dR1 dLenR) (dCons (dVar 0) dNil)) (dCB (dR1 dLenR) (dCons (dVar 1) dNil))) (dOp dEqQ (dLc false (dRng1 (dCB (dR1 dLenR) (dCons (dVar 1) dNil))) (.nm 2) (dNot (dTest (dCall sp_law_same [] (dCons (dOp dIxR (dVar 0) (dVar 2)) (dCons (dOp dIxR (dVar 1) (dVar 2)) dNil))))) (dVar 2) [2]) (dLst dNil))))))))
/-- _law_reached: 0 distances, 1 worths, 2 reach, 3 one, 4 worth -/
def t_law_reached : DTS :=
  (dRet (dOp dEqQ (dLc false (dSeqI (dVar 0)) (.nm 3) (dTestB (dOp dEqQ (dLc false (dSeqI (dVar 1)) (.nm 4) (dTestB (dOp (dCmpR (fun i j => decide (i ≤ j)) (fun a b => !decide (b < a))) (dCB (dR1 dAbsR) (dCons (dOp (dI0 fun i j => .int (i - j)) (dVar 4) (dVar 3)) dNil)) (dVar 2))) (dVar 4) [4]) (dLst dNil))) (dVar 3) [3]) (dLst dNil)))
/-- _law_far_apart: 0 apart, 1 gap, 2 k -/
def t_law_far_apart : DTS :=
  (dRet (dOp dEqQ (dLc false (dRng1 (dOp (dI0 fun i j => .int (i - j)) (dCB (dR1 dLenR) (dCons (dVar 0) dNil)) (dC (.int 1)))) (.nm 2) (dTestB (dOp (dCmpR (fun i j => decide (i < j)) (fun a b => decide (a < b))) (dOp (dI0 fun i j => .int (i - j)) (dOp dIxR (dVar 0) (dOp dAddR (dVar 2) (dC (.int 1)))) (dOp dIxR (dVar 0) (dVar 2))) (dVar 1))) (dVar 2) [2]) (dLst dNil)))
/-- _law_lists: 0 low, 1 high, 2 many, 3 found, 4 turn, 5 longer, 6 row, 7 begin, 8 number -/
def t_law_lists : DTS :=
  (dSeq (dAsg (dLst (dCons (dLst dNil) dNil)) (.nm 3))
  (dSeq (dFor (dRng1 (dVar 2)) (.nm 4) (dSeq (dAsg (dLst dNil) (.nm 5))
  (dSeq (dFor (dSeqI (dVar 3)) (.nm 6) (dSeq (dAsg (dIfE (dTestB (dOp dNeQ (dVar 6) (dLst dNil))) (dOp dIxR (dVar 6) (dUn dNeg (dC (.int 1)))) (dVar 0)) (.nm 7))
  (dAsg (dOp dAddR (dVar 5) (dLc false (dRng2 (dVar 7) (dOp dAddR (dVar 1) (dC (.int 1)))) (.nm 8) dYes (dOp dAddR (dVar 6) (dLst (dCons (dVar 8) dNil))) [8])) (.nm 5))))
  (dAsg (dVar 5) (.nm 3)))))
  (dRet (dVar 3))))
/-- _law_none_fewer: 0 distances, 1 reach, 2 many, 3 low, 4 high, 5 row -/
def t_law_none_fewer (sp_law_lists : DSp) (sp_law_reached : DSp) : DTS :=
  (dSeq (dPar 3 4 (dCons (dCB (dR1 (dOnIntsQ (fun ns => ns ≠ []) fun ns => .int (minI ns))) (dCons (dVar 0) dNil)) (dCons (dCB (dR1 (dOnIntsQ (fun ns => ns ≠ []) fun ns => .int (maxI ns))) (dCons (dVar 0) dNil)) dNil)))
  (dSeq (dIf (dOr (dTestB (dOp (dCmpR (fun i j => decide (j < i)) (fun a b => decide (b < a))) (dOp (dI0 fun i j => .int (i - j)) (dVar 4) (dVar 3)) (dC (.int 12)))) (dTestB (dOp (dCmpR (fun i j => decide (j < i)) (fun a b => decide (b < a))) (dVar 2) (dC (.int 3))))) (dRet (dC (.bl true))) dNext)
  (dRet (dOp dEqQ (dLc false (dSeqI (dCall sp_law_lists [] (dCons (dVar 3) (dCons (dVar 4) (dCons (dOp (dI0 fun i j => .int (i - j)) (dVar 2) (dC (.int 1))) dNil))))) (.nm 5) (dTest (dCall sp_law_reached [] (dCons (dVar 0) (dCons (dVar 5) (dCons (dVar 1) dNil))))) (dVar 5) [5]) (dLst dNil)))))
/-- need_most: 0 many -/
def t_need_most (sp_is_whole : DSp) : DTS :=
  (dIf (dNot (dTest (dCall sp_is_whole [] (dCons (dVar 0) (dCons (dC (.int 1)) (dCons (dC (.int 12)) dNil)))))) dNever dNext)
/-- reach_for: 0 distances, 1 many, 2 low, 3 high, 4 middle -/
def t_reach_for (sp_groups_of : DSp) : DTS :=
  (dSeq (dPar 2 3 (dCons (dC (.int 0)) (dCons (dCB (dR1 (dOnIntsQ (fun ns => ns ≠ []) fun ns => .int (maxI ns))) (dCons (dVar 0) dNil)) dNil)))
  (dSeq (dWhile (dTestB (dOp (dCmpR (fun i j => decide (i < j)) (fun a b => decide (a < b))) (dVar 2) (dVar 3))) (dSeq (dAsg (dOp (dI CDivW fun i j => .int (i / j)) (dOp dAddR (dVar 2) (dVar 3)) (dC (.int 2))) (.nm 4))
  (dIf (dTestB (dOp (dCmpR (fun i j => decide (i ≤ j)) (fun a b => !decide (b < a))) (dCB (dR1 dLenR) (dCons (dCall sp_groups_of [] (dCons (dVar 0) (dCons (dVar 4) dNil))) dNil)) (dVar 1))) (dAsg (dVar 4) (.nm 3)) (dAsg (dOp dAddR (dVar 4) (dC (.int 1))) (.nm 2)))))
  (dRet (dVar 2))))
/-- least_reach: 0 distances, 1 many, 2 reach, 3 worths, 4 firsts, 5 apart -/
def t_least_reach (K : PySem.W.Frag) (sp_need_distances : DSp) (sp_need_most : DSp) (sp_reach_for : DSp) (sp_covering : DSp) : DTS :=
  (dSeq (dDrop (dCall sp_need_distances [] (dCons (dVar 0) dNil)))
  (dSeq (dDrop (dCall sp_need_most [] (dCons (dVar 1) dNil)))
  (dSeq (dAsg (dCall sp_reach_for [] (dCons (dVar 0) (dCons (dVar 1) dNil))) (.nm 2))
  (dSeq (dAsg (dCall sp_covering [] (dCons (dVar 0) (dCons (dVar 2) dNil))) (.tp [(.nm 3), (.nm 4)]))
  (dSeq (dAsg (dIfE (dTestB (dOp (dCmpR (fun i j => decide (j < i)) (fun a b => decide (b < a))) (dVar 2) (dC (.int 0)))) (dSl (dSlR false) (dOp dIxR (dCall sp_covering [] (dCons (dVar 0) (dCons (dOp (dI0 fun i j => .int (i - j)) (dVar 2) (dC (.int 1))) dNil))) (dC (.int 1))) dNoPart (dPart (dOp dAddR (dVar 1) (dC (.int 1))))) (dLst dNil)) (.nm 5))
  (dGhost K (dRet (dTup (dCons (dVar 2) (dCons (dVar 3) (dCons (dVar 5) dNil)))))))))))
/-- _law_reach_right: 0 box, 1 distances, 2 many, 3 told, 4 reach, 5 due -/
def t_law_reach_right (sp_law_take : DSp) (sp_least_reach : DSp) (sp_law_same : DSp) (sp_law_due : DSp) (sp_law_reached : DSp) (sp_law_far_apart : DSp) : DTS :=
  (dSeq (dAsg (dOp dAddR (dC (.int 1)) (dCall sp_law_take [] (dCons (dVar 0) (dCons (dOp dIxR (dLst (dCons (dC (.int 3)) (dCons (dC (.int 12)) dNil))) (dCall sp_law_take [] (dCons (dVar 0) (dCons (dC (.int 2)) dNil)))) dNil)))) (.nm 2))
  (dSeq (dAsg (dCall sp_least_reach [] (dCons (dCB (dR1 (dListR false)) (dCons (dVar 1) dNil)) (dCons (dVar 2) dNil))) (.nm 3))
  (dSeq (dIf (dOr (dNot (dTest (dCB (dR2 dIsiR) (dCons (dVar 3) (dCons (dC (.ty .tup)) dNil))))) (dOr (dTestB (dOp dNeQ (dCB (dR1 dLenR) (dCons (dVar 3) dNil)) (dC (.int 3)))) (dOr (dNot (dTest (dCB (dR2 dIsiR) (dCons (dOp dIxR (dVar 3) (dC (.int 0))) (dCons (dC (.ty .int)) dNil))))) (dTest (dCB (dR2 dIsiR) (dCons (dOp dIxR (dVar 3) (dC (.int 0))) (dCons (dC (.ty .bool)) dNil))))))) (dRet (dC (.bl false))) dNext)
  (dSeq (dAsg (dOp dIxR (dVar 3) (dC (.int 0))) (.nm 4))
  (dSeq (dIf (dOr (dNot (dTestB (dChain (dCmpR (fun i j => decide (i ≤ j)) (fun a b => !decide (b < a))) (dCmpR (fun i j => decide (i ≤ j)) (fun a b => !decide (b < a))) (dC (.int 0)) (dVar 4) (dC (.int 99999))))) (dOr (dNot (dTest (dCall sp_law_same [] (dCons (dOp dIxR (dVar 3) (dC (.int 1))) (dCons (dOp dIxR (dCall sp_law_due [] (dCons (dVar 1) (dCons (dVar 4) dNil))) (dC (.int 0))) dNil))))) (dTestB (dOp (dCmpR (fun i j => decide (j < i)) (fun a b => decide (b < a))) (dCB (dR1 dLenR) (dCons (dOp dIxR (dVar 3) (dC (.int 1))) dNil)) (dVar 2))))) (dRet (dC (.bl false))) dNext)
  (dSeq (dAsg (dIfE (dTestB (dOp (dCmpR (fun i j => decide (j < i)) (fun a b => decide (b < a))) (dVar 4) (dC (.int 0)))) (dSl (dSlR false) (dOp dIxR (dCall sp_law_due [] (dCons (dVar 1) (dCons (dOp (dI0 fun i j => .int (i - j)) (dVar 4) (dC (.int 1))) dNil))) (dC (.int 1))) dNoPart (dPart (dOp dAddR (dVar 2) (dC (.int 1))))) (dLst dNil)) (.nm 5))
  (dSeq (dIf (dOr (dNot (dTest (dCall sp_law_same [] (dCons (dOp dIxR (dVar 3) (dC (.int 2))) (dCons (dVar 5) dNil))))) (dNot (dTest (dCall sp_law_reached [] (dCons (dVar 1) (dCons (dOp dIxR (dVar 3) (dC (.int 1))) (dCons (dVar 4) dNil))))))) (dRet (dC (.bl false))) dNext)
  (dSeq (dIf (dAnd (dTestB (dOp (dCmpR (fun i j => decide (j < i)) (fun a b => decide (b < a))) (dVar 4) (dC (.int 0)))) (dOr (dTestB (dOp dNeQ (dCB (dR1 dLenR) (dCons (dVar 5) dNil)) (dOp dAddR (dVar 2) (dC (.int 1))))) (dNot (dTest (dCall sp_law_far_apart [] (dCons (dVar 5) (dCons (dOp (dI0 fun i j => .int (i - j)) (dOp (dI MulOk fun i j => .int (i * j)) (dC (.int 2)) (dVar 4)) (dC (.int 1))) dNil))))))) (dRet (dC (.bl false))) dNext)
  (dSeq (dDrop (dMtL dAppend (dOp dIxR (dVar 3) (dC (.int 1))) (dCons (dUn dNeg (dC (.int 1))) dNil)))
  (dRet (dCall sp_law_same [] (dCons (dOp dIxR (dCallN 0 2 sp_least_reach (kperm [1, 0]) dNil (dCons (dVar 2) (dCons (dCB (dR1 dTupleR) (dCons (dVar 1) dNil)) dNil))) (dC (.int 0))) (dCons (dVar 4) dNil)))))))))))))
/-- law: 0 script, 1 k, 2 box, 3 reach, 4 distances, 5 handed, 6 worths, 7 apart, 8 told, 9 one -/
def t_law (K : PySem.W.Frag) (sp_law_box : DSp) (sp_law_cell : DSp) (sp_law_take : DSp) (sp_law_distances : DSp) (sp_law_due : DSp) (sp_fewest_worths : DSp) (sp_law_same : DSp) (sp_law_reached : DSp) (sp_law_far_apart : DSp) (sp_law_none_fewer : DSp) (sp_law_reach_right : DSp) : DTS :=
  (dSeq (dFor (dRng1 (dCB (dR2 dMax2R) (dCons (dC (.int 2)) (dCons (dCB (dR2 dMin2R) (dCons (dC (.int 5)) (dCons (dCB (dR1 dLenR) (dCons (dVar 0) dNil)) dNil))) dNil)))) (.nm 1) (dSeq (dAsg (dCall sp_law_box [] (dCons (dCall sp_law_cell [] (dCons (dVar 0) (dCons (dVar 1) dNil))) dNil)) (.nm 2))
  (dSeq (dAsg (dOp dIxR (dLst (dCons (dCall sp_law_take [] (dCons (dVar 2) (dCons (dC (.int 4)) dNil))) (dCons (dCall sp_law_take [] (dCons (dVar 2) (dCons (dC (.int 40)) dNil))) (dCons (dCall sp_law_take [] (dCons (dVar 2) (dCons (dC (.int 100000)) dNil))) (dCons (dC (.int 99999)) dNil))))) (dCall sp_law_take [] (dCons (dVar 2) (dCons (dC (.int 4)) dNil)))) (.nm 3))
  (dSeq (dAsg (dCall sp_law_distances [] (dCons (dVar 2) (dCons (dVar 3) dNil))) (.nm 4))
  (dSeq (dIf (dTestB (dOp dEqQ (dCall sp_law_take [] (dCons (dVar 2) (dCons (dC (.int 3)) dNil))) (dC (.int 0)))) (dSeq (dAsg (dLc false (dSeqI (dSl (dSlR false) (dVar 4) dNoPart (dPart (dC (.int 5))))) (.nm 9) dYes (dOp dAddR (dC (.int 40)) (dOp (dI (fun _ j => 0 < j) fun i j => .int (i % j)) (dCB (dR1 dIntR) (dCons (dVar 9) dNil)) (dC (.int 12)))) [9]) (.nm 4))
  (dAsg (dCall sp_law_take [] (dCons (dVar 2) (dCons (dC (.int 4)) dNil))) (.nm 3))) dNext)
  (dSeq (dAsg (dCB (dR1 (dListR false)) (dCons (dVar 4) dNil)) (.nm 5))
  (dSeq (dAsg (dCall sp_law_due [] (dCons (dVar 4) (dCons (dVar 3) dNil))) (.tp [(.nm 6), (.nm 7)]))
  (dSeq (dAsg (dCall sp_fewest_worths [] (dCons (dVar 5) (dCons (dVar 3) dNil))) (.nm 8))
  (dSeq (dIf (dOr (dNot (dTest (dCall sp_law_same [] (dCons (dVar 8) (dCons (dTup (dCons (dVar 6) (dCons (dVar 7) dNil))) dNil))))) (dNot (dTest (dCall sp_law_same [] (dCons (dVar 5) (dCons (dVar 4) dNil)))))) (dRet (dC (.bl false))) dNext)
  (dSeq (dIf (dOr (dNot (dTest (dCall sp_law_reached [] (dCons (dVar 4) (dCons (dOp dIxR (dVar 8) (dC (.int 0))) (dCons (dVar 3) dNil)))))) (dNot (dTest (dCall sp_law_far_apart [] (dCons (dOp dIxR (dVar 8) (dC (.int 1))) (dCons (dOp dAddR (dOp (dI MulOk fun i j => .int (i * j)) (dC (.int 2)) (dVar 3)) (dC (.int 1))) dNil)))))) (dRet (dC (.bl false))) dNext)
  (dSeq (dIf (dAnd (dTestB (dOp (dCmpR (fun i j => decide (i ≤ j)) (fun a b => !decide (b < a))) (dCB (dR1 dLenR) (dCons (dVar 4) dNil)) (dC (.int 5)))) (dNot (dTest (dCall sp_law_none_fewer [] (dCons (dVar 4) (dCons (dVar 3) (dCons (dCB (dR1 dLenR) (dCons (dVar 6) dNil)) dNil))))))) (dRet (dC (.bl false))) dNext)
  (dSeq (dDrop (dMtL dAppend (dOp dIxR (dVar 8) (dC (.int 0))) (dCons (dUn dNeg (dC (.int 1))) dNil)))
  (dSeq (dIf (dNot (dTest (dCall sp_law_same [] (dCons (dCallN 0 2 sp_fewest_worths (kperm [1, 0]) dNil (dCons (dVar 3) (dCons (dCB (dR1 dTupleR) (dCons (dVar 4) dNil)) dNil))) (dCons (dTup (dCons (dVar 6) (dCons (dVar 7) dNil))) dNil))))) (dRet (dC (.bl false))) dNext)
  (dIf (dNot (dTest (dCall sp_law_reach_right [] (dCons (dVar 2) (dCons (dVar 4) dNil))))) (dRet (dC (.bl false))) dNext))))))))))))))
  (dGhost K (dRet (dC (.bl true)))))
end K73
set_option linter.all false
set_option maxRecDepth 100000
namespace K73
open DL
/-! the plain law: groups of sorted numbers -/
def gadd (r : Int) : List (List Int) → Int → List (List Int)
  | [], d => [[d]]
  | [g], d => if d - g.headD 0 ≤ 2 * r then [g ++ [d]] else [g, [d]]
  | g :: h :: t, d => g :: gadd r (h :: t) d
def gr (r : Int) (ns : List Int) : List (List Int) := ns.foldl (gadd r) []
theorem gadd_snoc (r : Int) : ∀ (pre : List (List Int)) (g : List Int) (d : Int), gadd r (pre ++ [g]) d = if d - g.headD 0 ≤ 2 * r then pre ++ [g ++ [d]] else pre ++ [g] ++ [[d]]
  | [], g, d => by simp [gadd]
  | [a], g, d => by
    show a :: gadd r [g] d = _
    simp only [gadd]
    split <;> simp_all
  | a :: b :: t, g, d => by
    have ih := gadd_snoc r (b :: t) g d
    simp only [List.cons_append] at ih ⊢
    rw [gadd, ih]
    split <;> simp
/-- worth of a group -/
def wf (g : List Int) : Int := (g.headD 0 + g.getLastD 0) / 2
def hd (g : List Int) : Int := g.headD 0
structure Inv (r : Int) (l : List Int) (gs : List (List Int)) : Prop where
  flat : gs.flatten = l
  ne : ∀ g ∈ gs, g ≠ []
  lo : ∀ g ∈ gs, ∀ d ∈ g, hd g ≤ d
  up : ∀ g ∈ gs, ∀ d ∈ g, d ≤ hd g + 2 * r
  far : (gs.map hd).Pairwise fun a b => a + 2 * r < b
theorem Inv.nil {r : Int} : Inv r [] [] := ⟨rfl, by simp, by simp, by simp, by simp⟩
theorem last_of {α : Type} : ∀ {l : List α}, l ≠ [] → ∃ p x, l = p ++ [x]
  | [], h => absurd rfl h
  | [a], _ => ⟨[], a, rfl⟩
  | a :: b :: t, _ => by
    obtain ⟨p, x, e⟩ := last_of (l := b :: t) (by simp)
    exact ⟨a :: p, x, by rw [e]; rfl⟩
theorem hd_mem {g : List Int} (h : g ≠ []) : hd g ∈ g := by
  cases g with
  | nil => exact absurd rfl h
  | cons a t => simp [hd]
theorem hd_app {g : List Int} (h : g ≠ []) (d : Int) : hd (g ++ [d]) = hd g := by
  cases g with
  | nil => exact absurd rfl h
  | cons a t => simp [hd]
theorem Inv.add {r : Int} {l : List Int} {gs : List (List Int)} {d : Int} (hr : 0 ≤ r) (h : Inv r l gs) (hd' : ∀ x ∈ l, x ≤ d) : Inv r (l ++ [d]) (gadd r gs d) := by
  cases gs with
  | nil =>
    have e : l = [] := by simpa using h.flat.symm
    subst e
    exact ⟨by simp [gadd], by simp [gadd], by simp [gadd, hd], by simp [gadd, hd]; omega, by simp [gadd]⟩
  | cons a t =>
    obtain ⟨pre, g, e⟩ := last_of (l := a :: t) (by simp)
    rw [e] at h ⊢
    have hg : g ∈ pre ++ [g] := by simp
    have hn := h.ne g hg
    have hsub : ∀ g' ∈ pre ++ [g], ∀ x ∈ g', x ∈ l := fun g' m x hx => by
      rw [← h.flat]; exact List.mem_flatten.mpr ⟨g', m, hx⟩
    rw [gadd_snoc]
    split
    · next hc =>
      have hc : d - hd g ≤ 2 * r := hc
      refine ⟨?_, ?_, ?_, ?_, ?_⟩
      · have := h.flat
        simp only [List.flatten_append, List.flatten_cons, List.flatten_nil, List.append_nil] at this ⊢
        rw [← this, List.append_assoc]
      · intro g' m
        rcases List.mem_append.mp m with m | m
        · exact h.ne g' (by simp [m])
        · simp at m; subst m; simp
      · intro g' m x hx
        rcases List.mem_append.mp m with m | m
        · exact h.lo g' (by simp [m]) x hx
        · simp at m; subst m
          rw [hd_app hn]
          rcases List.mem_append.mp hx with hx | hx
          · exact h.lo g hg x hx
          · simp at hx; subst hx
            exact hd' _ (hsub g hg _ (hd_mem hn))
      · intro g' m x hx
        rcases List.mem_append.mp m with m | m
        · exact h.up g' (by simp [m]) x hx
        · simp at m; subst m
          rw [hd_app hn]
          rcases List.mem_append.mp hx with hx | hx
          · exact h.up g hg x hx
          · simp at hx; subst hx
            omega
      · have := h.far
        simp only [List.map_append, List.map_cons, List.map_nil] at this ⊢
        rw [hd_app hn]; exact this
    · next hc =>
      have hc : ¬ d - hd g ≤ 2 * r := hc
      refine ⟨?_, ?_, ?_, ?_, ?_⟩
      · rw [List.flatten_append, h.flat]; simp
      · intro g' m
        rcases List.mem_append.mp m with m | m
        · exact h.ne g' m
        · simp at m; subst m; simp
      · intro g' m x hx
        rcases List.mem_append.mp m with m | m
        · exact h.lo g' m x hx
        · simp at m; subst m; simp at hx; subst hx; simp [hd]
      · intro g' m x hx
        rcases List.mem_append.mp m with m | m
        · exact h.up g' m x hx
        · simp at m; subst m; simp at hx; subst hx; simp [hd]; omega
      · rw [List.map_append]
        refine List.pairwise_append.mpr ⟨h.far, by simp, fun a ha b hb => ?_⟩
        simp [hd] at hb
        subst hb
        obtain ⟨g', m, rfl⟩ := List.mem_map.mp ha
        rcases List.mem_append.mp m with m | m
        · have h1 := h.far
          rw [List.map_append] at h1
          have h2 := (List.pairwise_append.mp h1).2.2 (hd g') (List.mem_map.mpr ⟨g', m, rfl⟩) (hd g) (by simp)
          have h3 := hd' _ (hsub g hg _ (hd_mem hn))
          omega
        · simp at m; subst m; omega
theorem inv_fold {r : Int} (hr : 0 ≤ r) : ∀ (post pre : List Int) (gs : List (List Int)), Inv r pre gs → (pre ++ post).Pairwise (· ≤ ·) → Inv r (pre ++ post) (post.foldl (gadd r) gs)
  | [], pre, gs, h, _ => by simpa using h
  | d :: t, pre, gs, h, hs => by
    have h1 : ∀ x ∈ pre, x ≤ d := fun x hx => (List.pairwise_append.mp hs).2.2 x hx d List.mem_cons_self
    have ih := inv_fold hr t (pre ++ [d]) _ (h.add hr h1) (by simpa using hs)
    simpa using ih
theorem gr_inv {r : Int} (hr : 0 ≤ r) (ns : List Int) : Inv r (sortI ns) (gr r (sortI ns)) := by
  exact inv_fold hr (sortI ns) [] [] .nil (by simpa using sortI_sorted ns)
/-- every number is reached -/
def far1 (r d w : Int) : Bool := decide ((if w - d < 0 then -(w - d) else w - d) ≤ r)
theorem last_mem {g : List Int} (h : g ≠ []) : g.getLastD 0 ∈ g := by
  obtain ⟨p, x, rfl⟩ := last_of h
  simp
theorem gr_reach {r : Int} (hr : 0 ≤ r) (ns : List Int) : ∀ d ∈ ns, ∃ w ∈ (gr r (sortI ns)).map wf, d - r ≤ w ∧ w ≤ d + r := by
  intro d hd'
  have I := gr_inv hr ns
  have : d ∈ (gr r (sortI ns)).flatten := by rw [I.flat]; exact (sortI_perm ns).mem_iff.mpr hd'
  obtain ⟨g, hg, hdg⟩ := List.mem_flatten.mp this
  refine ⟨wf g, List.mem_map.mpr ⟨g, hg, rfl⟩, ?_⟩
  have hn := I.ne g hg
  have h1 := I.lo g hg d hdg
  have h2 := I.up g hg _ (last_mem hn)
  have h3 := I.lo g hg _ (last_mem hn)
  have h4 := I.up g hg d hdg
  -- d is at most the last one
  have h5 : d ≤ g.getLastD 0 := by
    have hs : g.Pairwise (· ≤ ·) := by
      have := sortI_sorted ns
      rw [← I.flat] at this
      exact (List.pairwise_flatten.mp this).1 g hg
    obtain ⟨p, x, rfl⟩ := last_of hn
    simp only [List.getLastD_concat]
    rcases List.mem_append.mp hdg with m | m
    · exact (List.pairwise_append.mp hs).2.2 d m x (by simp)
    · simp at m; omega
  unfold wf
  show _ ≤ (hd g + _) / 2 ∧ (hd g + _) / 2 ≤ _
  omega
theorem gr_far {r : Int} (hr : 0 ≤ r) (ns : List Int) : ((gr r (sortI ns)).map hd).Pairwise fun a b => a + 2 * r < b := (gr_inv hr ns).far
theorem gr_hd_mem {r : Int} (hr : 0 ≤ r) (ns : List Int) : ∀ h ∈ (gr r (sortI ns)).map hd, h ∈ ns := by
  intro h hm
  obtain ⟨g, hg, rfl⟩ := List.mem_map.mp hm
  have I := gr_inv hr ns
  refine (sortI_perm ns).mem_iff.mp ?_
  rw [← I.flat]
  exact List.mem_flatten.mpr ⟨g, hg, hd_mem (I.ne g hg)⟩
/-- none fewer -/
theorem pigeon {r : Int} : ∀ (hs row : List Int), hs.Pairwise (fun a b => a + 2 * r < b) → (∀ h ∈ hs, ∃ w ∈ row, h - r ≤ w ∧ w ≤ h + r) → hs.length ≤ row.length
  | [], _, _, _ => Nat.zero_le _
  | h :: t, row, hp, hr => by
    obtain ⟨h1, h2⟩ := List.pairwise_cons.mp hp
    obtain ⟨w, hw, hw2⟩ := hr h List.mem_cons_self
    have ih := pigeon t (row.erase w) h2 fun h' m => by
      obtain ⟨w', m', hw'⟩ := hr h' (List.mem_cons_of_mem _ m)
      have := h1 h' m
      refine ⟨w', (List.mem_erase_of_ne ?_).mpr m', hw'⟩
      omega
    rw [List.length_erase_of_mem hw] at ih
    have : 0 < row.length := List.length_pos_of_mem hw
    simp only [List.length_cons]
    omega
theorem gr_len_le {r : Int} (hr : 0 ≤ r) (ns : List Int) (row : List Int) (h : ∀ d ∈ ns, ∃ w ∈ row, d - r ≤ w ∧ w ≤ d + r) : (gr r (sortI ns)).length ≤ row.length := by
  have := pigeon _ row (gr_far hr ns) fun h' m => h h' (gr_hd_mem hr ns h' m)
  simpa using this
theorem gr_ne {r : Int} (hr : 0 ≤ r) {ns : List Int} (h : ns ≠ []) : gr r (sortI ns) ≠ [] := by
  intro e
  have I := gr_inv hr ns
  rw [e] at I
  have h1 : sortI ns = [] := I.flat.symm
  have := (sortI_perm ns).length_eq
  rw [h1] at this
  cases ns with
  | nil => exact h rfl
  | cons a t => simp at this
/-- a reach as great as all: one group -/
theorem gr_one {r : Int} (hr : 0 ≤ r) {ns : List Int} (h : ∀ d ∈ ns, 0 ≤ d ∧ d ≤ r) : (gr r (sortI ns)).length ≤ 1 := by
  have F := gr_far hr ns
  have M := gr_hd_mem hr ns
  generalize gr r (sortI ns) = gs at F M
  match gs with
  | [] => simp
  | [g] => simp
  | g :: g' :: t =>
    exfalso
    simp only [List.map_cons, List.pairwise_cons] at F
    have h1 := F.1 (hd g') List.mem_cons_self
    have h2 := h _ (M (hd g') (by simp))
    have h3 := h _ (M (hd g) (by simp))
    omega
theorem gr_len {r : Int} (hr : 0 ≤ r) (ns : List Int) : (gr r (sortI ns)).length ≤ ns.length := by
  have := gr_len_le hr ns ns fun d m => ⟨d, m, by omega, by omega⟩
  exact this
theorem gadd_len (r : Int) : ∀ (gs : List (List Int)) (d : Int), (gadd r gs d).length ≤ gs.length + 1
  | [], d => by simp [gadd]
  | [g], d => by simp only [gadd]; split <;> simp
  | g :: h :: t, d => by
    have := gadd_len r (h :: t) d
    simp only [gadd, List.length_cons] at this ⊢
    omega
theorem fold_len (r : Int) : ∀ (l : List Int) (gs : List (List Int)), (l.foldl (gadd r) gs).length ≤ gs.length + l.length
  | [], gs => by simp
  | d :: t, gs => by
    have h1 := fold_len r t (gadd r gs d)
    have h2 := gadd_len r gs d
    simp only [List.foldl_cons, List.length_cons]
    omega
theorem gr_len2 (r : Int) (l : List Int) : (gr r l).length ≤ l.length := by
  have := fold_len r l []
  rw [List.length_nil, Nat.zero_add] at this
  exact this
theorem gr_snoc (r : Int) (l : List Int) (d : Int) : gr r (l ++ [d]) = gadd r (gr r l) d := by simp [gr]
theorem gr_inv2 {r : Int} (hr : 0 ≤ r) {l : List Int} (h : l.Pairwise (· ≤ ·)) : Inv r l (gr r l) := inv_fold hr l [] [] .nil (by simpa using h)
end K73
set_option linter.all false
set_option maxRecDepth 100000
set_option maxHeartbeats 1000000
namespace K73
open PySem PySem.Spec L2 DL
/-! the draws -/
theorem qb {Q : DK} {G : GHp} {b : Bool} (e : b = true) (h : Q (.bl true) G) : Q (.bl b) G := e ▸ h
theorem ft {P : Prop} (e : false = true) : P := nomatch e
theorem tf {P : Prop} (e : true = false) : P := nomatch e
theorem qi {Q : DK} {G : GHp} {i j : Int} (e : i = j) (h : Q (.int i) G) : Q (.int j) G := e ▸ h
abbrev sp_law_take : DSp := spTake
abbrev sp_law_box : DSp := spBox
abbrev sp_law_cell : DSp := spCell
theorem mul_small {i j : Int} (h : (-(2 ^ 64) < i ∧ i < 2 ^ 64) ∨ (-(2 ^ 64) < j ∧ j < 2 ^ 64)) : MulOk i j := .inl h
theorem pow_small {i j : Int} (h : 0 ≤ j ∧ j ≤ 1000000 ∧ i.natAbs < 2 ^ 64) : L2.CPow i j := h
theorem divw_small {i j : Int} (h : 0 < j) (h2 : j.natAbs < 2 ^ 1000) : L2.CDivW i j := ⟨h, by
  have h3 : j.natAbs ≠ 0 := by omega
  have := (Nat.log2_lt h3).mpr h2
  omega⟩
theorem rd_law_take : ∀ x m G Q (E : DXK), (∃ (p : Addr) (s : Bx) (k : Nat) (n : Int), x = .ref p ∧ G p = some s.go ∧ s.Ok k ∧ k < 2 ^ 30 ∧ m = .int n ∧ 0 < n ∧ n.natAbs < 2 ^ 1000 ∧
  ∀ (v : Int) (s' : Bx), 0 ≤ v → v < n → s'.Ok (k + 1) → Q (.int v) (gupd G p s'.go)) → DRun (t_law_take ) [some x, some m, none, none, none] G Q := by
  rintro x m G Q E ⟨p, ⟨a, b, c⟩, k, n, rfl, hp, ⟨a0, b0, b1, c0, c1⟩, hk, rfl, hn, hn2, h⟩
  change G p = some (.lst [.int a, .int b, .int c]) at hp
  change 0 ≤ a at a0
  change 0 ≤ b at b0
  change b < _ at b1
  change 0 ≤ c at c0
  change c ≤ _ at c1
  have hl : lsOf G (.ref p) = some [.int a, .int b, .int c] := lsOf_ref hp
  conv => whnf
  rw [hl]
  conv => whnf
  refine ⟨fun e => ?_, fun e => ?_⟩
  · have ha : 0 < a := of_decide_eq_true e
    conv => whnf
    rw [hl]
    conv => whnf
    refine ⟨hn, ?_⟩
    conv => whnf
    rw [hl]
    conv => whnf
    refine ⟨divw_small hn hn2, ?_⟩
    conv => whnf
    rw [hp]
    conv => whnf
    exact h _ ⟨a / n, b, c⟩ (Int.emod_nonneg _ (by omega)) (Int.emod_lt_of_pos _ hn) ⟨Int.ediv_nonneg a0 (by omega), b0, b1, c0, by show c ≤ _; omega⟩
  · have ha : a ≤ 0 := by have := of_decide_eq_false e; omega
    conv => whnf
    rw [hl]
    conv => whnf
    rw [hp]
    conv => whnf
    rw [lsOf_ref gupd_same]
    conv => whnf
    rw [lsOf_ref gupd_same]
    conv => whnf
    refine ⟨mul_small (.inl (by omega)), ?_⟩
    conv => whnf
    refine ⟨pow_small (by omega), ?_⟩
    conv => whnf
    refine ⟨by omega, ?_⟩
    conv => whnf
    rw [lsOf_ref gupd_same]
    conv => whnf
    rw [lsOf_ref gupd_same]
    conv => whnf
    refine ⟨mul_small (.inl (by omega)), ?_⟩
    conv => whnf
    refine ⟨pow_small ⟨by omega, by omega, ?_⟩, ?_⟩
    · have := Int.mul_le_mul_of_nonneg_right (show b ≤ 2147483648 by omega) (show 0 ≤ c + 1 by omega)
      have h0 : 0 ≤ b * (c + 1) := Int.mul_nonneg b0 (by omega)
      show (b * (c + 1) + 65003).natAbs < _
      omega
    conv => whnf
    refine ⟨by omega, ?_⟩
    conv => whnf
    refine ⟨mul_small (.inr (by omega)), ?_⟩
    conv => whnf
    refine ⟨⟨by decide, by decide⟩, ?_⟩
    conv => whnf
    refine ⟨hn, ?_⟩
    conv => whnf
    exact h _ ⟨a, b, c + 1⟩ (Int.emod_nonneg _ (by omega)) (Int.emod_lt_of_pos _ hn) ⟨a0, b0, b1, by show 0 ≤ c + 1; omega, by show c + 1 ≤ _; omega⟩
theorem rd_law_box : ∀ x G Q (E : DXK), (∃ z : Int, x = .int z ∧ ∀ (p : Addr) (s : Bx), G p = none → s.Ok 0 → Q (.ref p) (gupd G p s.go)) → DRun (t_law_box ) [some x] G Q := by
  rintro x G Q E ⟨z, rfl, h⟩
  conv => whnf
  refine ⟨pow_small (by decide), ?_⟩
  conv => whnf
  refine ⟨by omega, ?_⟩
  conv => whnf
  refine ⟨by show 3 ≤ sizeLine; decide, fun p hp => ?_⟩
  exact h p ⟨max 0 (z - 10 ^ 18), z % 2147483587, 0⟩ hp ⟨by show 0 ≤ max 0 _; omega, Int.emod_nonneg _ (by omega), by have := Int.emod_lt_of_pos z (show (0 : Int) < 2147483587 by omega); show z % _ < _; omega, by show (0 : Int) ≤ 0; decide, by show (0 : Int) ≤ 0; decide⟩
theorem rd_law_cell : ∀ x m G Q (E : DXK), (∃ (ns : List Int) (k : Int), x = .scr (ns.map .int) ∧ m = .int k ∧ 0 ≤ k ∧ k < 2 ^ 40 ∧ ∀ z : Int, Q (.int z) G) → DRun (t_law_cell ) [some x, some m] G Q := by
  rintro x m G Q E ⟨ns, k, rfl, rfl, h0, h1, h⟩
  conv => whnf
  refine ⟨fun e => ?_, fun e => ?_⟩
  · have e : k < (ns.map D.int).length := of_decide_eq_true e
    conv => whnf
    refine atD_of h0 e fun d hd => ?_
    obtain ⟨z, _, rfl⟩ := List.mem_map.mp hd
    exact h z
  · conv => whnf
    refine ⟨mul_small (.inl (by omega)), ?_⟩
    conv => whnf
    exact h _

/-! the bounds -/
def sq (x : D) (ns : List Int) : Prop := x = .lst (ns.map .int) ∨ x = .tup (ns.map .int)
def sp_is_list : DSp := sp3 fun x l u G Q _ => ∃ (ns : List Int) (lo hi : Int), sq x ns ∧ l = .int lo ∧ u = .int hi ∧ lo ≤ ns.length ∧ ns.length ≤ hi ∧ Q (.bl true) G
theorem rd_is_list : ∀ x l u G Q (E : DXK), (∃ (ns : List Int) (lo hi : Int), sq x ns ∧ l = .int lo ∧ u = .int hi ∧ lo ≤ ns.length ∧ ns.length ≤ hi ∧ Q (.bl true) G) → DRun (t_is_list ) [some x, some l, some u] G Q := by
  rintro x l u G Q E ⟨ns, lo, hi, rfl | rfl, rfl, rfl, h1, h2, h⟩
  · conv => whnf
    refine ⟨fun e => ?_, fun e => tf e⟩
    conv => whnf
    refine ⟨fun e => ?_, fun e => ?_⟩
    · conv => whnf
      exact qb (decide_eq_true (by simpa using h2)) h
    · exfalso
      have e : ¬ lo ≤ ((ns.map D.int).length : Int) := of_decide_eq_false e
      rw [List.length_map] at e; omega
  · conv => whnf
    refine ⟨fun e => ?_, fun e => tf e⟩
    conv => whnf
    refine ⟨fun e => ?_, fun e => ?_⟩
    · conv => whnf
      exact qb (decide_eq_true (by simpa using h2)) h
    · exfalso
      have e : ¬ lo ≤ ((ns.map D.int).length : Int) := of_decide_eq_false e
      rw [List.length_map] at e; omega
def sp_is_plain : DSp := sp1 fun a G Q _ => ∃ i, a = D.int i ∧ Q (.bl true) G
theorem rd_is_plain : ∀ a G Q (E : DXK), (∃ i, a = D.int i ∧ Q (.bl true) G) → DRun (t_is_plain ) [some a] G Q := by
  rintro a G Q E ⟨i, rfl, h⟩
  conv => whnf
  refine ⟨fun e => ?_, fun e => tf e⟩
  conv => whnf
  exact h
def sp_is_whole : DSp := sp3 fun a b c G Q _ => ∃ i l h, a = D.int i ∧ b = .int l ∧ c = .int h ∧ l ≤ i ∧ i ≤ h ∧ Q (.bl true) G
theorem rd_is_whole : ∀ a b c G Q (E : DXK), (∃ i l h, a = D.int i ∧ b = .int l ∧ c = .int h ∧ l ≤ i ∧ i ≤ h ∧ Q (.bl true) G) → DRun (t_is_whole sp_is_plain) [some a, some b, some c] G Q := by
  rintro a b c G Q E ⟨i, l, u, rfl, rfl, rfl, h1, h2, h⟩
  conv => whnf
  refine ⟨_, rfl, ?_⟩
  conv => whnf
  refine ⟨fun e => ?_, fun e => tf e⟩
  conv => whnf
  refine ⟨fun e => ?_, fun e => ?_⟩
  · conv => whnf
    exact qb (decide_eq_true h2) h
  · exact absurd h1 (of_decide_eq_false e)
def sp_need_distance : DSp := sp1 fun a G Q _ => ∃ i, a = D.int i ∧ 0 ≤ i ∧ i ≤ 99999 ∧ Q .non G
theorem rd_need_distance : ∀ a G Q (E : DXK), (∃ i, a = D.int i ∧ 0 ≤ i ∧ i ≤ 99999 ∧ Q .non G) → DRun (t_need_distance sp_is_whole) [some a] G Q := by
  rintro a G Q E ⟨i, rfl, h1, h2, h⟩
  conv => whnf
  refine ⟨_, _, _, rfl, rfl, rfl, h1, h2, ?_⟩
  conv => whnf
  exact ⟨fun e => ft e, fun _ => h⟩
def sp_need_most : DSp := sp1 fun a G Q _ => ∃ i, a = D.int i ∧ 1 ≤ i ∧ i ≤ 12 ∧ Q .non G
theorem rd_need_most : ∀ a G Q (E : DXK), (∃ i, a = D.int i ∧ 1 ≤ i ∧ i ≤ 12 ∧ Q .non G) → DRun (t_need_most sp_is_whole) [some a] G Q := by
  rintro a G Q E ⟨i, rfl, h1, h2, h⟩
  conv => whnf
  refine ⟨_, _, _, rfl, rfl, rfl, h1, h2, ?_⟩
  conv => whnf
  exact ⟨fun e => ft e, fun _ => h⟩
def sp_need_distances : DSp := sp1 fun x G Q _ => ∃ ns, sq x ns ∧ 1 ≤ ns.length ∧ ns.length ≤ 100 ∧ (∀ n ∈ ns, 0 ≤ n ∧ n ≤ 99999) ∧ Q .non G
theorem rd_need_distances : ∀ x G Q (E : DXK), (∃ ns, sq x ns ∧ 1 ≤ ns.length ∧ ns.length ≤ 100 ∧ (∀ n ∈ ns, 0 ≤ n ∧ n ≤ 99999) ∧ Q .non G) → DRun (t_need_distances sp_is_list sp_need_distance) [some x, none] G Q := by
  rintro x G Q E ⟨ns, hx, h1, h2, h3, h⟩
  conv => whnf
  refine ⟨ns, _, _, hx, rfl, rfl, by omega, by omega, ?_⟩
  conv => whnf
  refine ⟨fun e => ft e, fun _ => ?_⟩
  have key : dForL none (.nm 1) (dDrop (dCall sp_need_distance [] (dCons (dVar 1) dNil))) (ns.map .int) { nx := fun _ G' => Q .non G', rt := Q } [some x, none] G := by
    refine for_ind (enc := D.int) (fun r δ G' => G' = G ∧ (∃ o, δ = [some x, o]) ∧ ∀ n ∈ r, 0 ≤ n ∧ n ≤ 99999) ?_ ?_ ns _ _ ⟨rfl, ⟨_, rfl⟩, h3⟩
    · rintro δ _ ⟨rfl, _, _⟩
      exact ⟨trivial, h⟩
    · rintro n r _ _ ⟨rfl, ⟨o, rfl⟩, hr⟩
      refine ⟨trivial, _, rfl, fun N hN => ?_⟩
      conv => whnf
      exact ⟨n, rfl, (hr n List.mem_cons_self).1, (hr n List.mem_cons_self).2, hN _ _ ⟨rfl, ⟨_, rfl⟩, fun m hm => hr m (List.mem_cons_of_mem _ hm)⟩⟩
  rcases hx with rfl | rfl
  · exact key
  · exact key
end K73
set_option linter.all false
set_option maxRecDepth 100000
set_option maxHeartbeats 1000000
namespace K73
open PySem PySem.Spec L2 DL
theorem smallL {n : Nat} (h : n ≤ 100000) : n ≤ sizeLine := Nat.le_trans h (by decide)
theorem smallLt {n : Nat} (h : n < 100000) : n < sizeLine := Nat.lt_of_lt_of_le h (by decide)
/-! sorting, by the law -/
def insF (m : List Int) (n : Int) : List Int := m.filter (fun x => decide (x ≤ n)) ++ [n] ++ m.filter (fun x => decide (n < x))
theorem insF_perm (m : List Int) (n : Int) : (insF m n).Perm (n :: m) := by
  unfold insF
  have e : m.filter (fun x => decide (n < x)) = m.filter (fun x => !decide (x ≤ n)) := by
    refine List.filter_congr fun x _ => ?_
    by_cases h : x ≤ n
    · rw [decide_eq_true h, decide_eq_false (by omega)]; rfl
    · rw [decide_eq_false h, decide_eq_true (by omega)]; rfl
  rw [e]
  have h1 := List.filter_append_perm (fun x => decide (x ≤ n)) m
  refine List.Perm.trans ?_ (List.Perm.cons n h1)
  refine List.Perm.trans (List.Perm.append_right _ List.perm_append_comm) ?_
  exact .refl _
theorem insF_sorted {m : List Int} (n : Int) (h : m.Pairwise (· ≤ ·)) : (insF m n).Pairwise (· ≤ ·) := by
  unfold insF
  refine List.pairwise_append.mpr ⟨List.pairwise_append.mpr ⟨h.filter _, by simp, fun a ha b hb => ?_⟩, h.filter _, fun a ha b hb => ?_⟩
  · simp at ha hb; omega
  · simp at ha hb
    rcases ha with ha | ha <;> omega
def sp_law_sorted : DSp := sp1 fun x G Q _ => ∃ ns : List Int, x = .lst (ns.map .int) ∧ ns.length ≤ 1000 ∧ Q (.lst ((sortI ns).map .int)) G
theorem rd_law_sorted : ∀ x G Q (E : DXK), (∃ ns : List Int, x = .lst (ns.map .int) ∧ ns.length ≤ 1000 ∧ Q (.lst ((sortI ns).map .int)) G) → DRun (t_law_sorted ) [some x, none, none, none, none] G Q := by
  rintro x G Q E ⟨ns, rfl, hz, h⟩
  conv => whnf
  refine ⟨smallL (by simp), ?_⟩
  conv => whnf
  refine for_ind (enc := D.int) (fun r δ G' => G' = G ∧ ∃ pre m o2 o3 o4, ns = pre ++ r ∧ m.Perm pre ∧ m.Pairwise (· ≤ ·) ∧ δ = [some (.lst (ns.map .int)), some (.lst (m.map .int)), o2, o3, o4]) ?_ ?_ ns _ _ ⟨rfl, [], [], none, none, none, rfl, .refl _, .nil, rfl⟩
  · rintro δ _ ⟨rfl, pre, m, o2, o3, o4, e, hp, hs, rfl⟩
    refine ⟨trivial, ?_⟩
    conv => whnf
    rw [List.append_nil] at e
    subst e
    rw [← sorted_unique (hp.trans (sortI_perm ns).symm) hs (sortI_sorted ns)] at h
    exact h
  · rintro n r δ _ ⟨rfl, pre, m, o2, o3, o4, e, hp, hs, rfl⟩
    refine ⟨trivial, _, rfl, fun N hN => ?_⟩
    conv => whnf
    have hm : m.length ≤ 1000 := by
      have h1 := hp.length_eq
      have h2 := congrArg List.length e
      rw [List.length_append, List.length_cons] at h2
      omega
    refine lc_map (enc := D.int) (keep := fun x => decide (x ≤ n)) (f := D.int) (smallL (by omega)) trivial (fun x hx R h => h) (fun x hx _ R h => h) ?_
    conv => whnf
    refine ⟨smallL (by simp), ?_⟩
    conv => whnf
    have hf1 := List.length_filter_le (fun x => decide (x ≤ n)) m
    have hf2 := List.length_filter_le (fun x => decide (n < x)) m
    refine ⟨smallL (by simp; omega), ?_⟩
    conv => whnf
    refine lc_map (enc := D.int) (keep := fun x => decide (n < x)) (f := D.int) (smallL (by omega)) trivial (fun x hx R h => h) (fun x hx _ R h => h) ?_
    conv => whnf
    refine ⟨smallL (by simp; omega), ?_⟩
    conv => whnf
    have em : (insF m n).map D.int = (m.filter fun x => decide (x ≤ n)).map D.int ++ [D.int n] ++ (m.filter fun x => decide (n < x)).map D.int := by
      unfold insF
      rw [List.map_append, List.map_append]
      rfl
    exact hN _ _ ⟨rfl, pre ++ [n], insF m n, _, _, _, by rw [e]; simp, (insF_perm m n).trans ((List.Perm.cons n hp).trans (List.perm_append_comm (l₁ := [n]))), insF_sorted n hs, by rw [em]; rfl⟩
end K73
set_option linter.all false
set_option maxRecDepth 100000
set_option maxHeartbeats 1000000
namespace K73
open PySem PySem.Spec L2 DL
theorem sq_ints {G : GHp} {x : D} {ns : List Int} (h : sq x ns) : intsQ G x = some ns := by
  rcases h with rfl | rfl
  · show (lsOf G (.lst (ns.map .int))).bind intsOf = _
    exact intsOf_map ns
  · exact intsOf_map ns
abbrev lsI (g : List Int) : D := .lst (g.map .int)
/-- tracked lists, one for each group -/
structure GS (G : GHp) (p : Addr) (G' : GHp) (as : List Addr) (gs : List (List Int)) : Prop where
  at_ : G' p = some (.lst (as.map .ref))
  all : Paired (fun a g => G' a = some (.lst (g.map D.int))) as gs
  nd : (p :: as).Nodup
  old : ∀ a ∈ p :: as, G a = none
  keep : ∀ b, b ∉ p :: as → G' b = G b
theorem GS.dds {G' : GHp} : ∀ {as : List Addr} {gs : List (List Int)}, Paired (fun a g => G' a = some (.lst (g.map D.int))) as gs → DDs G' (as.map .ref) (gs.map fun g => .list (g.map .int))
  | _, _, .nil => .nil
  | _, _, .cons h t => .cons (.ref h (.ints _)) (GS.dds t)
theorem gs_shps (gs : List (List Int)) : Shps 63 (gs.map fun g => PyData.list (g.map .int)) := .of fun p hp => by
  obtain ⟨g, _, rfl⟩ := List.mem_map.mp hp
  exact (Shps.ints (n := 62) g).list
theorem GS.trees {G' : GHp} {S : Addr → Prop} : ∀ {as : List Addr} {gs : List (List Int)}, (∀ a ∈ as, S a) → Paired (fun a g => G' a = some (.lst (g.map D.int))) as gs → Trees G' S (as.map .ref) (gs.map lsI)
  | _, _, _, .nil => .nil
  | _, _, q, .cons h t => .cons (.ref (q _ List.mem_cons_self) h (.same _)) (GS.trees (fun a m => q a (List.mem_cons_of_mem _ m)) t)
theorem pair_snoc {α β : Type} {R : α → β → Prop} : ∀ {as : List α} {bs : List β}, Paired R as bs → as ≠ [] → ∃ as' a bs' b, as = as' ++ [a] ∧ bs = bs' ++ [b] ∧ Paired R as' bs' ∧ R a b
  | _, _, .nil, h => absurd rfl h
  | [a], [b], .cons h .nil, _ => ⟨[], a, [], b, rfl, rfl, .nil, h⟩
  | a :: c :: as, b :: e :: bs, .cons h t, _ => by
    obtain ⟨as', x, bs', y, e1, e2, q, hr⟩ := pair_snoc t (by simp)
    exact ⟨a :: as', x, b :: bs', y, by rw [e1]; rfl, by rw [e2]; rfl, .cons h q, hr⟩
theorem pair_append {α β : Type} {R : α → β → Prop} : ∀ {as : List α} {bs : List β} {a : α} {b : β}, Paired R as bs → R a b → Paired R (as ++ [a]) (bs ++ [b])
  | _, _, _, _, .nil, h => .cons h .nil
  | _, _, _, _, .cons h t, q => .cons h (pair_append t q)
theorem pair_mono {α β : Type} {R R' : α → β → Prop} : ∀ {as : List α} {bs : List β}, Paired R as bs → (∀ a ∈ as, ∀ b, R a b → R' a b) → Paired R' as bs
  | _, _, .nil, _ => .nil
  | _, _, .cons h t, q => .cons (q _ List.mem_cons_self _ h) (pair_mono t fun a m => q a (List.mem_cons_of_mem _ m))
theorem pair_len {α β : Type} {R : α → β → Prop} : ∀ {as : List α} {bs : List β}, Paired R as bs → as.length = bs.length
  | _, _, .nil => rfl
  | _, _, .cons h t => by simp [pair_len t]
theorem pair_some {G' : GHp} : ∀ {as : List Addr} {gs : List (List Int)}, Paired (fun a g => G' a = some (.lst (g.map D.int))) as gs → ∀ a ∈ as, G' a ≠ none
  | _, _, .nil, a, m => absurd m (by simp)
  | _, _, .cons h t, a, m => by
    rcases List.mem_cons.mp m with rfl | m
    · rw [h]; simp
    · exact pair_some t a m
theorem GS.grow {G G' : GHp} {p a : Addr} {as : List Addr} {gs : List (List Int)} {g : List Int} {d : Int} (S : GS G p G' (as ++ [a]) (gs ++ [g])) (h : Paired (fun a g => G' a = some (.lst (g.map D.int))) as gs) : GS G p (gupd G' a (.lst (g.map .int ++ [.int d]))) (as ++ [a]) (gs ++ [g ++ [d]]) := by
  have nd := S.nd
  have h1 : p ≠ a := fun e => (List.nodup_cons.mp nd).1 (by simp [e])
  have h2 : ∀ b ∈ as, b ≠ a := fun b hb e => by
    have := (List.nodup_append.mp (List.nodup_cons.mp nd).2).2.2 b hb a (by simp)
    exact this e
  refine ⟨by rw [gupd_ne h1]; exact S.at_, pair_append (pair_mono h fun b hb g' e => by rw [gupd_ne (h2 b hb)]; exact e) ?_, nd, S.old, fun b hb => ?_⟩
  · rw [gupd_same, List.map_append]; rfl
  · rw [gupd_ne (fun e => hb (by simp [e]))]; exact S.keep b hb
theorem GS.push {G G' : GHp} {p q : Addr} {as : List Addr} {gs : List (List Int)} {d : Int} (S : GS G p G' as gs) (hq : G' q = none) : GS G p (gupd (gupd G' q (.lst [.int d])) p (.lst (as.map .ref ++ [.ref q]))) (as ++ [q]) (gs ++ [[d]]) := by
  have hqp : q ≠ p := fun e => by rw [e, S.at_] at hq; cases hq
  have hqa : q ∉ as := fun m => pair_some S.all q m hq
  obtain ⟨n1, n2⟩ := List.nodup_cons.mp S.nd
  refine ⟨by rw [gupd_same, List.map_append]; rfl, pair_append (pair_mono S.all fun b hb g' e => ?_) ?_, ?_, ?_, fun b hb => ?_⟩
  · rw [gupd_ne (fun e => n1 (by rw [← e]; exact hb)), gupd_ne (fun e => hqa (by rw [← e]; exact hb))]; exact e
  · rw [gupd_ne hqp, gupd_same]; rfl
  · refine List.nodup_cons.mpr ⟨fun m => ?_, List.nodup_append.mpr ⟨n2, by simp, fun a ha b hb e => ?_⟩⟩
    · rcases List.mem_append.mp m with m | m
      · exact n1 m
      · simp at m; exact hqp m.symm
    · simp at hb; exact hqa (by rw [← hb, ← e]; exact ha)
  · intro b hb
    rcases List.mem_cons.mp hb with rfl | hb
    · exact S.old _ List.mem_cons_self
    · rcases List.mem_append.mp hb with hb | hb
      · exact S.old _ (List.mem_cons_of_mem _ hb)
      · simp at hb; subst hb
        rw [← S.keep b (by simp [hqp, hqa])]; exact hq
  · simp only [List.mem_cons, List.mem_append, List.not_mem_nil, or_false, not_or] at hb
    rw [gupd_ne hb.1, gupd_ne hb.2.2]
    exact S.keep b (by simp [hb.1, hb.2.1])
theorem hd_at {g : List Int} (h : g ≠ []) {Q : D → Prop} (q : Q (.int (hd g))) : atD (g.map .int) 0 Q := by
  cases g with
  | nil => exact absurd rfl h
  | cons a t => exact atD_get (d := .int a) (by omega) (by simp) rfl q
theorem last_at {g : List Int} (h : g ≠ []) {Q : D → Prop} (q : Q (.int (g.getLastD 0))) : atD (g.map .int) (-1) Q := by
  obtain ⟨p, x, rfl⟩ := last_of h
  rw [List.map_append]
  rw [List.getLastD_concat] at q
  exact atD_last q
def sp_groups_of : DSp := sp2 fun x r G Q _ => ∃ (ns : List Int) (c : Int), sq x ns ∧ ns.length ≤ 1000 ∧ 0 ≤ c ∧ c ≤ 1000000 ∧ r = .int c ∧ Q (.lst ((gr c (sortI ns)).map lsI)) G
theorem rd_groups_of {K : PySem.W.Frag} : ∀ x r G Q (E : DXK), (∃ (ns : List Int) (c : Int), sq x ns ∧ ns.length ≤ 1000 ∧ 0 ≤ c ∧ c ≤ 1000000 ∧ r = .int c ∧ Q (.lst ((gr c (sortI ns)).map lsI)) G) → DRun (t_groups_of K) [some x, some r, none, none] G Q := by
  rintro x r G Q E ⟨ns, c, hx, hz, hc0, hc1, rfl, h⟩
  conv => whnf
  refine ⟨smallL (by simp), fun p hp => ?_⟩
  conv => whnf
  rw [sq_ints hx]
  conv => whnf
  refine for_ind (enc := D.int) (fun r δ G' => ∃ pre as o3, sortI ns = pre ++ r ∧ δ = [some x, some (.int c), some (.ref p), o3] ∧ GS G p G' as (gr c pre)) ?_ ?_ (sortI ns) _ _ ⟨[], [], none, rfl, rfl, ⟨gupd_same, .nil, by simp, by simp [hp], fun b hb => gupd_ne (by simpa using hb)⟩⟩
  · rintro δ G' ⟨pre, as, o3, e, rfl, S⟩
    rw [List.append_nil] at e
    subst e
    refine ⟨trivial, ?_⟩
    conv => whnf
    refine ⟨[some x, some (.int c), some (.lst ((gr c (sortI ns)).map lsI)), none], G, View.tree (fun a => a ∈ p :: as) S.old (fun a o q => .inl ?_) (.cons (.so (.same _)) (.cons (.so (.same _)) (.cons (.so (.ref List.mem_cons_self S.at_ (GS.trees (fun a m => List.mem_cons_of_mem _ m) S.all))) (.cons (.no _) .nil)))), h⟩
    rw [← q]
    refine S.keep a fun m => ?_
    rw [S.old a m] at q
    cases q
  · rintro d r δ G' ⟨pre, as, o3, e, rfl, S⟩
    refine ⟨trivial, _, rfl, fun N hN => ?_⟩
    have hlen : (gr c pre).length ≤ 1000 := by
      have h1 := (sortI_perm ns).length_eq
      have h2 := congrArg List.length e
      have h3 := gr_len2 c pre
      rw [List.length_append] at h2
      omega
    have hI : Inv c pre (gr c pre) := gr_inv2 hc0 (by
      have := sortI_sorted ns
      rw [e] at this
      exact (List.pairwise_append.mp this).1)
    have hal := pair_len S.all
    conv => whnf
    refine ⟨smallL (by simp), ?_⟩
    refine ne_nilR S.at_ (GS.dds S.all) (gs_shps _) ?_
    have fin : ∀ q, G' q = none → (∀ as2, as2 = as ++ [q] → gr c (pre ++ [d]) = gr c pre ++ [[d]] → N [some x, some (.int c), some (.ref p), some (.int d)] (gupd (gupd G' q (.lst [.int d])) p (.lst (as.map .ref ++ [.ref q])))) := fun q hq as2 _ eg => by
      refine hN _ _ ⟨pre ++ [d], as ++ [q], some (.int d), by rw [e]; simp, rfl, ?_⟩
      rw [eg]
      exact S.push hq
    conv => whnf
    refine ⟨fun e1 => ?_, fun e1 => ?_⟩
    · have hne : as ≠ [] := fun e => by rw [e] at e1; cases e1
      obtain ⟨as', a, gs', g, rfl, eg, q, ha⟩ := pair_snoc S.all hne
      have hg : g ≠ [] := hI.ne g (by rw [eg]; simp)
      have hs := gadd_snoc c gs' g d
      rw [← eg, ← gr_snoc] at hs
      change gr c (pre ++ [d]) = if d - hd g ≤ 2 * c then _ else _ at hs
      conv => whnf
      rw [lsOf_ref S.at_, List.map_append]
      conv => whnf
      show atD (as'.map .ref ++ [.ref a]) (-1) _
      refine atD_last ?_
      conv => whnf
      rw [lsOf_ref ha]
      refine hd_at hg ?_
      conv => whnf
      refine ⟨mul_small (.inl (by omega)), ?_⟩
      conv => whnf
      refine ⟨fun e2 => ?_, fun e2 => ?_⟩
      · have e2 : d - hd g ≤ 2 * c := of_decide_eq_true e2
        rw [if_pos e2] at hs
        conv => whnf
        rw [lsOf_ref S.at_, List.map_append]
        conv => whnf
        show atD (as'.map .ref ++ [.ref a]) (-1) _
        refine atD_last ?_
        conv => whnf
        rw [lsOf_ref ha]
        conv => whnf
        rw [ha]
        conv => whnf
        refine ⟨smallLt (by
          have h1 := (sortI_perm ns).length_eq
          have h2 := congrArg List.length e
          have h3 := congrArg List.length hI.flat
          rw [eg] at h3
          simp at h3 h2 ⊢
          omega), ?_⟩
        conv => whnf
        refine hN _ _ ⟨pre ++ [d], as' ++ [a], some (.int d), by rw [e]; simp, rfl, ?_⟩
        rw [hs]
        rw [eg] at S
        exact S.grow q
      · have e2 : ¬ d - hd g ≤ 2 * c := of_decide_eq_false e2
        rw [if_neg e2] at hs
        conv => whnf
        rw [lsOf_ref S.at_]
        conv => whnf
        refine ⟨smallL (by simp), fun q hq => ?_⟩
        have hqp : p ≠ q := fun e => by rw [← e, S.at_] at hq; cases hq
        conv => whnf
        rw [gupd_ne hqp, S.at_]
        conv => whnf
        refine ⟨smallLt (by rw [List.length_map, hal]; omega), ?_⟩
        conv => whnf
        exact fin q hq _ rfl hs
    · have hne : as = [] := by cases as with
        | nil => rfl
        | cons _ _ => cases e1
      conv => whnf
      refine ⟨fun e => ft e, fun _ => ?_⟩
      conv => whnf
      rw [lsOf_ref S.at_]
      conv => whnf
      refine ⟨smallL (by simp), fun q hq => ?_⟩
      have hqp : p ≠ q := fun e => by rw [← e, S.at_] at hq; cases hq
      conv => whnf
      rw [gupd_ne hqp, S.at_]
      conv => whnf
      refine ⟨smallLt (by rw [List.length_map, hal]; omega), ?_⟩
      conv => whnf
      refine fin q hq _ rfl ?_
      have h0 : gr c pre = [] := by
        have := hal
        rw [hne] at this
        exact List.length_eq_zero_iff.mp this.symm
      rw [gr_snoc, h0]
      rfl
end K73
set_option linter.all false
set_option maxRecDepth 100000
set_option maxHeartbeats 1000000
namespace K73
open PySem PySem.Spec L2 DL
theorem filter_yes {α : Type} (l : List α) : l.filter (fun _ => true) = l := by simp
abbrev ws (c : Int) (ns : List Int) : List Int := (gr c (sortI ns)).map wf
abbrev hs (c : Int) (ns : List Int) : List Int := (gr c (sortI ns)).map hd
def pr_covering (x r : D) (G : GHp) (Q : DK) : Prop := ∃ (ns : List Int) (c : Int), sq x ns ∧ ns.length ≤ 1000 ∧ 0 ≤ c ∧ c ≤ 1000000 ∧ r = .int c ∧ ∀ p, G p = none → Q (.tup [.ref p, lsI (hs c ns)]) (gupd G p (.lst ((ws c ns).map .int)))
def sp_covering : DSp := sp2 fun x r G Q _ => pr_covering x r G Q
theorem rd_covering : ∀ x r G Q (E : DXK), pr_covering x r G Q → DRun (t_covering sp_groups_of) [some x, some r, none, none] G Q := by
  rintro x r G Q E ⟨ns, c, hx, hz, hc0, hc1, rfl, h⟩
  have I := gr_inv hc0 ns
  have hl := gr_len hc0 ns
  conv => whnf
  refine ⟨ns, c, hx, hz, hc0, hc1, rfl, ?_⟩
  conv => whnf
  refine lc_map (enc := lsI) (keep := fun _ => true) (f := fun g => .int (wf g)) (smallL (by omega)) trivial (fun _ _ R h => h) (fun g hg _ R h => ?_) ?_
  · have hn := I.ne g hg
    conv => whnf
    refine hd_at hn ?_
    conv => whnf
    refine last_at hn ?_
    conv => whnf
    refine ⟨⟨by decide, by decide⟩, ?_⟩
    conv => whnf
    exact h
  rw [filter_yes]
  intro p hp
  conv => whnf
  refine lc_map (enc := lsI) (keep := fun _ => true) (f := fun g => .int (hd g)) (smallL (by omega)) trivial (fun _ _ R h => h) (fun g hg _ R h => ?_) ?_
  · have hn := I.ne g hg
    conv => whnf
    refine hd_at hn ?_
    conv => whnf
    exact h
  rw [filter_yes]
  conv => whnf
  refine ⟨smallL (by simp), ?_⟩
  have := h p hp
  simp only [hs, ws, lsI, List.map_map] at this
  exact this
def pr_fewest (x r : D) (G : GHp) (Q : DK) : Prop := ∃ (ns : List Int) (c : Int), sq x ns ∧ 1 ≤ ns.length ∧ ns.length ≤ 100 ∧ (∀ n ∈ ns, 0 ≤ n ∧ n ≤ 99999) ∧ 0 ≤ c ∧ c ≤ 99999 ∧ r = .int c ∧ ∀ p, G p = none → Q (.tup [.ref p, lsI (hs c ns)]) (gupd G p (.lst ((ws c ns).map .int)))
def sp_fewest_worths : DSp := sp2 fun x r G Q _ => pr_fewest x r G Q
theorem rd_fewest_worths : ∀ x r G Q (E : DXK), pr_fewest x r G Q → DRun (t_fewest_worths sp_need_distances sp_need_distance sp_covering) [some x, some r] G Q := by
  rintro x r G Q E ⟨ns, c, hx, h1, h2, h3, hc0, hc1, rfl, h⟩
  conv => whnf
  refine ⟨ns, hx, h1, h2, h3, ?_⟩
  conv => whnf
  refine ⟨_, rfl, hc0, hc1, ?_⟩
  conv => whnf
  exact ⟨ns, c, hx, by omega, hc0, by omega, rfl, h⟩
/-- the least reach: with it so many do, and with one less they do not -/
def LR (ns : List Int) (m r : Int) : Prop := 0 ≤ r ∧ r ≤ 99999 ∧ ((gr r (sortI ns)).length : Int) ≤ m ∧ (0 < r → m < (gr (r - 1) (sortI ns)).length)
def sp_reach_for : DSp := sp2 fun x m G Q _ => ∃ (ns : List Int) (k : Int), sq x ns ∧ ns ≠ [] ∧ ns.length ≤ 1000 ∧ (∀ n ∈ ns, 0 ≤ n ∧ n ≤ 99999) ∧ 1 ≤ k ∧ m = .int k ∧ ∀ r, LR ns k r → Q (.int r) G
theorem rd_reach_for : ∀ x m G Q (E : DXK), (∃ (ns : List Int) (k : Int), sq x ns ∧ ns ≠ [] ∧ ns.length ≤ 1000 ∧ (∀ n ∈ ns, 0 ≤ n ∧ n ≤ 99999) ∧ 1 ≤ k ∧ m = .int k ∧ ∀ r, LR ns k r → Q (.int r) G) → DRun (t_reach_for sp_groups_of) [some x, some m, none, none, none] G Q := by
  rintro x m G Q E ⟨ns, k, hx, hne, hz, hn, hk, rfl, h⟩
  obtain ⟨hm1, hm2⟩ := maxI_mem hne
  have hM := hn _ hm1
  conv => whnf
  rw [sq_ints hx]
  conv => whnf
  refine ⟨hne, ?_⟩
  conv => whnf
  refine while_ind (fun n δ G' => G' = G ∧ ∃ lo hi o, δ = [some x, some (.int k), some (.int lo), some (.int hi), o] ∧ 0 ≤ lo ∧ lo ≤ hi ∧ hi ≤ 99999 ∧ ((gr hi (sortI ns)).length : Int) ≤ k ∧ (0 < lo → k < (gr (lo - 1) (sortI ns)).length) ∧ (hi - lo).toNat ≤ n) (maxI ns).toNat
    ⟨rfl, 0, maxI ns, none, rfl, by omega, hM.1, hM.2, ?_, fun h => absurd h (by omega), by omega⟩ ?_
  · have := gr_one hM.1 (ns := ns) fun d hd => ⟨(hn d hd).1, hm2 d hd⟩
    omega
  · rintro n δ _ ⟨rfl, lo, hi, o, rfl, h0, h1, h2, h3, h4, h5⟩ N hN
    conv => whnf
    refine ⟨fun e => ?_, fun e => ?_⟩
    · have e : lo < hi := of_decide_eq_true e
      have hmid : lo ≤ (lo + hi) / 2 ∧ (lo + hi) / 2 < hi := by omega
      conv => whnf
      refine ⟨⟨by decide, by decide⟩, ?_⟩
      conv => whnf
      refine ⟨ns, _, hx, hz, by omega, by omega, rfl, ?_⟩
      conv => whnf
      refine ⟨fun e2 => ?_, fun e2 => ?_⟩
      · have e2 : (((gr ((lo + hi) / 2) (sortI ns)).map lsI).length : Int) ≤ k := of_decide_eq_true e2
        rw [List.length_map] at e2
        refine hN ((lo + hi) / 2 - lo).toNat _ _ (by omega) ⟨rfl, lo, (lo + hi) / 2, _, rfl, h0, by omega, by omega, e2, h4, by omega⟩
      · have e2 : ¬ (((gr ((lo + hi) / 2) (sortI ns)).map lsI).length : Int) ≤ k := of_decide_eq_false e2
        rw [List.length_map] at e2
        refine hN (hi - ((lo + hi) / 2 + 1)).toNat _ _ (by omega) ⟨rfl, (lo + hi) / 2 + 1, hi, _, rfl, by omega, by omega, by omega, h3, fun _ => ?_, by omega⟩
        rw [show (lo + hi) / 2 + 1 - 1 = (lo + hi) / 2 by omega]
        omega
    · have e : ¬ lo < hi := of_decide_eq_false e
      have : lo = hi := by omega
      subst this
      exact h lo ⟨h0, h2, h3, h4⟩
theorem LR.unique {ns : List Int} {m r r' : Int} (h : LR ns m r) (h' : LR ns m r') : r = r' := by
  have mono : ∀ {a b : Int}, 0 ≤ a → a ≤ b → (gr b (sortI ns)).length ≤ (gr a (sortI ns)).length := fun {a b} ha hb => by
    have := gr_len_le (show 0 ≤ b by omega) ns ((gr a (sortI ns)).map wf) fun d hd => by
      obtain ⟨w, hw, h1, h2⟩ := gr_reach ha ns d hd
      exact ⟨w, hw, by omega, by omega⟩
    simpa using this
  obtain ⟨a1, a2, a3, a4⟩ := h
  obtain ⟨b1, b2, b3, b4⟩ := h'
  rcases Int.lt_trichotomy r r' with q | q | q
  · have h1 := b4 (by omega)
    have h2 := mono a1 (show r ≤ r' - 1 by omega)
    omega
  · exact q
  · have h1 := a4 (by omega)
    have h2 := mono b1 (show r' ≤ r - 1 by omega)
    omega
theorem cutD_take {ds : List D} {n : Int} (h : 0 ≤ n) : cutD ds none (some n) = ds.take n.toNat := by
  unfold cutD
  obtain ⟨m, rfl⟩ := Int.eq_ofNat_of_zero_le h
  rw [HT.sIx_none, List.drop_zero, Nat.sub_zero, HT.sIx_nat, List.take_eq_take_iff]
  simp
def ap (ns : List Int) (k r : Int) : List Int := if 0 < r then (hs (r - 1) ns).take (k + 1).toNat else []
def pr_least (x m : D) (G : GHp) (Q : DK) : Prop := ∃ (ns : List Int) (k : Int), sq x ns ∧ 1 ≤ ns.length ∧ ns.length ≤ 100 ∧ (∀ n ∈ ns, 0 ≤ n ∧ n ≤ 99999) ∧ 1 ≤ k ∧ k ≤ 12 ∧ m = .int k ∧ ∀ r, LR ns k r → ∀ p, G p = none → Q (.tup [.int r, .ref p, lsI (ap ns k r)]) (gupd G p (.lst ((ws r ns).map .int)))
def sp_least_reach : DSp := sp2 fun x m G Q _ => pr_least x m G Q
theorem rd_least_reach {K : PySem.W.Frag} : ∀ x m G Q (E : DXK), pr_least x m G Q → DRun (t_least_reach K sp_need_distances sp_need_most sp_reach_for sp_covering) [some x, some m, none, none, none, none] G Q := by
  rintro x m G Q E ⟨ns, k, hx, h1, h2, h3, hk1, hk2, rfl, h⟩
  have hne : ns ≠ [] := fun e => by rw [e] at h1; simp at h1
  conv => whnf
  refine ⟨ns, hx, h1, h2, h3, ?_⟩
  conv => whnf
  refine ⟨_, rfl, hk1, hk2, ?_⟩
  conv => whnf
  refine ⟨ns, _, hx, hne, by omega, h3, hk1, rfl, fun r hr => ?_⟩
  obtain ⟨r0, r1, r2, r3⟩ := hr
  conv => whnf
  refine ⟨ns, _, hx, by omega, r0, by omega, rfl, fun p hp => ?_⟩
  conv => whnf
  refine ⟨fun e => ?_, fun e => ?_⟩
  · have e : 0 < r := of_decide_eq_true e
    conv => whnf
    refine ⟨ns, _, hx, by omega, by omega, by omega, rfl, fun q hq => ?_⟩
    conv => whnf
    refine ⟨_, _, View.forget hq, ?_⟩
    conv => whnf
    refine ⟨smallL (by simp), ?_⟩
    have := h r ⟨r0, r1, r2, r3⟩ p hp
    unfold ap at this
    rw [if_pos e] at this
    have ec : cutD ((hs (r - 1) ns).map .int) none (some (k + 1)) = ((hs (r - 1) ns).take (k + 1).toNat).map .int := by
      rw [cutD_take (by omega), List.map_take]
    unfold lsI at this
    rw [← ec] at this
    exact this
  · have e : ¬ 0 < r := of_decide_eq_false e
    conv => whnf
    refine ⟨smallL (by simp), ?_⟩
    conv => whnf
    refine ⟨_, _, .refl, ?_⟩
    conv => whnf
    refine ⟨smallL (by simp), ?_⟩
    have := h r ⟨r0, r1, r2, r3⟩ p hp
    unfold ap at this
    rw [if_neg e] at this
    exact this
end K73
set_option linter.all false
set_option maxRecDepth 100000
set_option maxHeartbeats 1000000
namespace K73
open PySem PySem.Spec L2 DL
def encO : Option Int → D
  | none => .non
  | some i => .int i
/-- the three lists of the law's grouping -/
structure Du (G : GHp) (pw pa : Addr) (G' : GHp) (pg : Addr) (done : List (List Int)) (g : List D) : Prop where
  hw : G' pw = some (.lst ((done.map wf).map .int))
  ha : G' pa = some (.lst ((done.map hd).map .int))
  hg : G' pg = some (.lst g)
  hgw : pg ≠ pw
  hga : pg ≠ pa
  hk : ∀ b o, G b = some o → G' b = some o
  hn : G pg = none
inductive DuS (c : Int) : List Int → List (List Int) → List Int → Prop
  | nil : DuS c [] [] []
  | cons {pre : List Int} {done : List (List Int)} {g : List Int} : g ≠ [] → gr c pre = done ++ [g] → DuS c pre done g
def pr_due (x r : D) (G : GHp) (Q : DK) : Prop := ∃ (ns : List Int) (c : Int), x = lsI ns ∧ ns.length ≤ 1000 ∧ 0 ≤ c ∧ c ≤ 1000000 ∧ r = .int c ∧ Q (.tup [lsI (ws c ns), lsI (hs c ns)]) G
def sp_law_due : DSp := sp2 fun x r G Q _ => pr_due x r G Q
theorem rd_law_due {K : PySem.W.Frag} : ∀ x r G Q (E : DXK), pr_due x r G Q → DRun (t_law_due K sp_law_sorted) [some x, some r, none, none, none, none] G Q := by
  rintro x r G Q E ⟨ns, c, rfl, hz, hc0, hc1, rfl, h⟩
  have hlen : ∀ pre post : List Int, pre ++ post = sortI ns → pre.length ≤ 1000 := fun pre post e => by
    have h1 := (sortI_perm ns).length_eq
    have h2 := congrArg List.length e
    rw [List.length_append] at h2
    omega
  conv => whnf
  refine ⟨smallL (by simp), fun pw hpw => ?_⟩
  conv => whnf
  refine ⟨smallL (by simp), fun pa hpa => ?_⟩
  obtain ⟨hap, hpa⟩ := gupd_none hpa
  conv => whnf
  refine ⟨smallL (by simp), fun pg hpg => ?_⟩
  obtain ⟨hga, hpg⟩ := gupd_none hpg
  obtain ⟨hgw, hpg⟩ := gupd_none hpg
  conv => whnf
  refine ⟨ns, rfl, hz, ?_⟩
  conv => whnf
  refine ⟨smallL (by simp), ?_⟩
  conv => whnf
  refine ⟨smallL (by
    have h1 := (sortI_perm ns).length_eq
    simp; omega), ?_⟩
  conv => whnf
  have el : (sortI ns).map D.int ++ [D.non] = ((sortI ns).map some ++ [none]).map encO := by
    rw [List.map_append, List.map_map]; rfl
  rw [el]
  refine for_ind (enc := encO) (fun r δ G' => ∃ pg o5, δ = [some (lsI ns), some (.int c), some (.ref pw), some (.ref pa), some (.ref pg), o5] ∧
      ((∃ pre post done g, r = post.map some ++ [none] ∧ pre ++ post = sortI ns ∧ DuS c pre done g ∧ Du G pw pa G' pg done (g.map .int)) ∨ (r = [] ∧ ∃ g, Du G pw pa G' pg (gr c (sortI ns)) g))) ?_ ?_ _ _ _
    ⟨pg, none, rfl, .inl ⟨[], sortI ns, [], [], rfl, rfl, .nil, ⟨?_, ?_, gupd_same, hgw, hga, fun b o e => ?_, hpg⟩⟩⟩
  · rintro δ G' ⟨pg, o5, rfl, ⟨pre, post, _, _, e, _⟩ | ⟨_, g, D⟩⟩
    · have := congrArg List.length e
      simp at this
    · refine ⟨trivial, ?_⟩
      conv => whnf
      refine ⟨[some (lsI ns), some (.int c), some (lsI (ws c ns)), some (lsI (hs c ns)), none, none], G, View.tree (fun a => G a = none) (fun a e => e) (fun a o e => .inl (D.hk a o e)) (.cons (.so (.same _)) (.cons (.so (.same _)) (.cons (.so (.ref hpw D.hw (.same _))) (.cons (.so (.ref hpa D.ha (.same _))) (.cons (.no _) (.cons (.no _) .nil)))))), ?_⟩
      conv => whnf
      exact ⟨smallL (by simp), h⟩
  · rintro y r δ G' ⟨pg, o5, rfl, ⟨pre, post, done, g, e, ep, st, ⟨hw, ha, hg, hgw, hga, hk, hpg⟩⟩ | ⟨e, _⟩⟩
    rotate_left
    · cases e
    refine ⟨trivial, _, rfl, fun N hN => ?_⟩
    have hpl := hlen pre post ep
    have hdone : done.length ≤ 1000 := by
      cases st with
      | nil => simp
      | cons _ eg =>
        have h1 := gr_len2 c pre
        rw [eg] at h1
        simp at h1; omega
    have hgl : g.length ≤ 1000 := by
      cases st with
      | nil => simp
      | cons _ eg =>
        have h1 := (gr_inv2 hc0 (l := pre) (by
          have := sortI_sorted ns
          rw [← ep] at this
          exact (List.pairwise_append.mp this).1)).flat
        rw [eg] at h1
        have := congrArg List.length h1
        simp at this; omega
    conv => whnf
    refine ⟨smallL (by simp), ?_⟩
    refine ne_nilR hg (.ints g) (.ints g) ?_
    cases st with
    | nil =>
      conv => whnf
      refine ⟨fun e => ft e, fun _ => ?_⟩
      conv => whnf
      refine ⟨fun e => ft e, fun _ => ?_⟩
      conv => whnf
      rw [lsOf_ref hg]
      conv => whnf
      rw [hg]
      conv => whnf
      refine ⟨smallLt (by simp), ?_⟩
      conv => whnf
      cases post with
      | nil =>
        cases e
        refine hN _ _ ⟨pg, _, rfl, .inr ⟨rfl, _, ⟨?_, ?_, gupd_same, hgw, hga, fun b o q => ?_, hpg⟩⟩⟩
        · rw [gupd_ne hgw.symm, ← ep]; exact hw
        · rw [gupd_ne hga.symm, ← ep]; exact ha
        · exact gupd_at (fun e => by rw [e, hpg] at q; cases q) (hk b o q)
      | cons d post =>
        cases e
        refine hN _ _ ⟨pg, _, rfl, .inl ⟨[d], post, [], [d], rfl, ep, .cons (by simp) rfl, ⟨?_, ?_, gupd_same, hgw, hga, fun b o q => ?_, hpg⟩⟩⟩
        · rw [gupd_ne hgw.symm]; exact hw
        · rw [gupd_ne hga.symm]; exact ha
        · exact gupd_at (fun e => by rw [e, hpg] at q; cases q) (hk b o q)
    | cons hn eg =>
      have hne : (!(g.map D.int).isEmpty) = true := by
        cases g with
        | nil => exact absurd rfl hn
        | cons _ _ => rfl
      have sn := gadd_snoc c done g
      cases post with
      | nil =>
        cases e
        conv => whnf
        refine ⟨fun _ => ?_, fun e => ?_⟩
        rotate_left
        · exfalso
          rw [hne] at e
          cases e
        conv => whnf
        refine ⟨fun _ => ?_, fun e => tf e⟩
        conv => whnf
        refine ⟨fun _ => ?_, fun e => tf e⟩
        conv => whnf
        rw [lsOf_ref hw]
        conv => whnf
        rw [lsOf_ref hg]
        refine hd_at hn ?_
        conv => whnf
        rw [lsOf_ref hg]
        refine last_at hn ?_
        conv => whnf
        refine ⟨⟨by decide, by decide⟩, ?_⟩
        conv => whnf
        rw [hw]
        conv => whnf
        refine ⟨smallLt (by rw [List.length_map, List.length_map]; omega), ?_⟩
        conv => whnf
        rw [lsOf_ref (gupd_at hap ha)]
        conv => whnf
        rw [lsOf_ref (gupd_at hgw hg)]
        refine hd_at hn ?_
        conv => whnf
        rw [gupd_at hap ha]
        conv => whnf
        refine ⟨smallLt (by rw [List.length_map, List.length_map]; omega), ?_⟩
        conv => whnf
        refine ⟨smallL (by simp), fun q hq => ?_⟩
        obtain ⟨hqa, hq1⟩ := gupd_none hq
        obtain ⟨hqw, hq2⟩ := gupd_none hq1
        conv => whnf
        rw [lsOf_ref gupd_same]
        conv => whnf
        rw [gupd_same]
        conv => whnf
        refine ⟨smallLt (by simp), ?_⟩
        conv => whnf
        have hG : G q = none := by
          cases hx : G q with
          | none => rfl
          | some o => rw [hk q o hx] at hq2; cases hq2
        refine hN _ _ ⟨q, _, rfl, .inr ⟨rfl, _, ⟨?_, ?_, gupd_same, hqw, hqa, fun b o o2 => ?_, hG⟩⟩⟩
        · rw [gupd_ne hqw.symm, gupd_ne hqw.symm, gupd_ne hap.symm, gupd_same, ← ep, List.append_nil, eg, List.map_append, List.map_append]; rfl
        · rw [gupd_ne hqa.symm, gupd_ne hqa.symm, gupd_same, ← ep, List.append_nil, eg, List.map_append, List.map_append]; rfl
        · have hb : ∀ a, G a = none → b ≠ a := fun a h2 e2 => by rw [e2, h2] at o2; cases o2
          rw [gupd_ne (hb _ hG), gupd_ne (hb _ hG), gupd_ne (hb _ hpa), gupd_ne (hb _ hpw)]; exact hk b o o2
      | cons d post =>
        cases e
        conv => whnf
        refine ⟨fun _ => ?_, fun e => ?_⟩
        rotate_left
        · exfalso
          rw [hne] at e
          cases e
        conv => whnf
        refine ⟨fun e => ft e, fun _ => ?_⟩
        conv => whnf
        rw [lsOf_ref hg]
        refine hd_at hn ?_
        conv => whnf
        refine ⟨mul_small (.inl (by omega)), ?_⟩
        conv => whnf
        refine ⟨fun e2 => ?_, fun e2 => ?_⟩
        · have e2 : ¬ d - g.headD 0 ≤ 2 * c := by
            have e2 : hd g + 2 * c < d := of_decide_eq_true e2
            show ¬ d - hd g ≤ 2 * c
            omega
          conv => whnf
          rw [lsOf_ref hw]
          conv => whnf
          rw [lsOf_ref hg]
          refine hd_at hn ?_
          conv => whnf
          rw [lsOf_ref hg]
          refine last_at hn ?_
          conv => whnf
          refine ⟨⟨by decide, by decide⟩, ?_⟩
          conv => whnf
          rw [hw]
          conv => whnf
          refine ⟨smallLt (by rw [List.length_map, List.length_map]; omega), ?_⟩
          conv => whnf
          rw [lsOf_ref (gupd_at hap ha)]
          conv => whnf
          rw [lsOf_ref (gupd_at hgw hg)]
          refine hd_at hn ?_
          conv => whnf
          rw [gupd_at hap ha]
          conv => whnf
          refine ⟨smallLt (by rw [List.length_map, List.length_map]; omega), ?_⟩
          conv => whnf
          refine ⟨smallL (by simp), fun q hq => ?_⟩
          obtain ⟨hqa, hq1⟩ := gupd_none hq
          obtain ⟨hqw, hq2⟩ := gupd_none hq1
          conv => whnf
          rw [lsOf_ref gupd_same]
          conv => whnf
          rw [gupd_same]
          conv => whnf
          refine ⟨smallLt (by simp), ?_⟩
          conv => whnf
          have hG : G q = none := by
            cases hx : G q with
            | none => rfl
            | some o => rw [hk q o hx] at hq2; cases hq2
          refine hN _ _ ⟨q, _, rfl, .inl ⟨pre ++ [d], post, done ++ [g], [d], rfl, by rw [← ep]; simp, .cons (by simp) ?_, ⟨?_, ?_, gupd_same, hqw, hqa, fun b o o2 => ?_, hG⟩⟩⟩
          · rw [gr_snoc, eg, sn, if_neg e2]
          · rw [gupd_ne hqw.symm, gupd_ne hqw.symm, gupd_ne hap.symm, gupd_same, List.map_append, List.map_append]; rfl
          · rw [gupd_ne hqa.symm, gupd_ne hqa.symm, gupd_same, List.map_append, List.map_append]; rfl
          · have hb : ∀ a, G a = none → b ≠ a := fun a h2 e2 => by rw [e2, h2] at o2; cases o2
            rw [gupd_ne (hb _ hG), gupd_ne (hb _ hG), gupd_ne (hb _ hpa), gupd_ne (hb _ hpw)]; exact hk b o o2
        · have e2 : d - g.headD 0 ≤ 2 * c := by
            have e2 : ¬ hd g + 2 * c < d := of_decide_eq_false e2
            show d - hd g ≤ 2 * c
            omega
          conv => whnf
          rw [lsOf_ref hg]
          conv => whnf
          rw [hg]
          conv => whnf
          refine ⟨smallLt (by rw [List.length_map]; omega), ?_⟩
          conv => whnf
          refine hN _ _ ⟨pg, _, rfl, .inl ⟨pre ++ [d], post, done, g ++ [d], rfl, by rw [← ep]; simp, .cons (by simp) ?_, ⟨?_, ?_, ?_, hgw, hga, fun b o o2 => ?_, hpg⟩⟩⟩
          · rw [gr_snoc, eg, sn, if_pos e2]
          · rw [gupd_ne hgw.symm]; exact hw
          · rw [gupd_ne hga.symm]; exact ha
          · rw [gupd_same, List.map_append]; rfl
          · exact gupd_at (fun e => by rw [e, hpg] at o2; cases o2) (hk b o o2)
  · rw [gupd_ne hgw.symm, gupd_ne hap.symm]; exact gupd_same
  · rw [gupd_ne hga.symm]; exact gupd_same
  · have hb : ∀ a, G a = none → b ≠ a := fun a h2 e2 => by rw [e2, h2] at e; cases e
    rw [gupd_ne (hb _ hpg), gupd_ne (hb _ hpa), gupd_ne (hb _ hpw)]; exact e
end K73
set_option linter.all false
set_option maxRecDepth 100000
set_option maxHeartbeats 1000000
namespace K73
open PySem PySem.Spec L2 DL
/-! who is reached -/
def nearF (c d : Int) (wl : List Int) : List Int := wl.filter fun w => decide (((w - d).natAbs : Int) ≤ c)
def farL (c : Int) (ns wl : List Int) : List Int := ns.filter fun d => (nearF c d wl).isEmpty
def pr_reached (x y r : D) (G : GHp) (Q : DK) : Prop := ∃ (ns wl : List Int) (c : Int), x = lsI ns ∧ (y = lsI wl ∨ ∃ p, y = .ref p ∧ G p = some (.lst (wl.map .int))) ∧ ns.length ≤ 1000 ∧ wl.length ≤ 1000 ∧ r = .int c ∧ Q (.bl (farL c ns wl).isEmpty) G
def sp_law_reached : DSp := sp3 fun x y r G Q _ => pr_reached x y r G Q
theorem isEmpty_map {α β : Type} (f : α → β) (l : List α) : (l.map f).isEmpty = l.isEmpty := by cases l <;> rfl
theorem rd_law_reached : ∀ x y r G Q (E : DXK), pr_reached x y r G Q → DRun (t_law_reached ) [some x, some y, some r, none, none] G Q := by
  rintro x y r G Q E ⟨ns, wl, c, rfl, hy, h1, h2, rfl, h⟩
  have fin : dEqQ (.lst ((farL c ns wl).map .int)) (.lst []) G Q := eq_nilL (.ints _) (.ints _) (by rw [isEmpty_map]; exact h)
  conv => whnf
  rcases hy with rfl | ⟨p, rfl, hp⟩
  · refine lc_map (enc := D.int) (keep := fun d => (nearF c d wl).isEmpty) (f := D.int) (smallL (by omega)) trivial (fun d hd R hR => ?_) (fun d hd _ R hR => hR) ⟨smallL (by simp), fin⟩
    conv => whnf
    refine lc_map (enc := D.int) (keep := fun w => decide (((w - d).natAbs : Int) ≤ c)) (f := D.int) (smallL (by omega)) trivial (fun w hw R hR => hR) (fun w hw _ R hR => hR) ?_
    conv => whnf
    refine ⟨smallL (by simp), ?_⟩
    refine eq_nilL (.ints _) (.ints _) ?_
    rw [isEmpty_map]
    exact hR
  · refine lc_map (enc := D.int) (keep := fun d => (nearF c d wl).isEmpty) (f := D.int) (smallL (by omega)) trivial (fun d hd R hR => ?_) (fun d hd _ R hR => hR) ⟨smallL (by simp), fin⟩
    conv => whnf
    rw [hp]
    conv => whnf
    refine lc_map (enc := D.int) (keep := fun w => decide (((w - d).natAbs : Int) ≤ c)) (f := D.int) (smallL (by omega)) hp (fun w hw R hR => hR) (fun w hw _ R hR => hR) ?_
    conv => whnf
    refine ⟨smallL (by simp), ?_⟩
    refine eq_nilL (.ints _) (.ints _) ?_
    rw [isEmpty_map]
    exact hR
theorem reached_iff {c : Int} {ns wl : List Int} : (farL c ns wl).isEmpty = true ↔ ∀ d ∈ ns, ∃ w ∈ wl, d - c ≤ w ∧ w ≤ d + c := by
  rw [List.isEmpty_iff]
  unfold farL
  rw [List.filter_eq_nil_iff]
  refine ⟨fun h d hd => ?_, fun h d hd => ?_⟩
  · have := h d hd
    rw [List.isEmpty_iff] at this
    obtain ⟨w, hw⟩ := List.exists_mem_of_ne_nil _ this
    unfold nearF at hw
    rw [List.mem_filter] at hw
    exact ⟨w, hw.1, by have := of_decide_eq_true hw.2; omega⟩
  · obtain ⟨w, hw, h1⟩ := h d hd
    rw [List.isEmpty_iff]
    exact List.ne_nil_of_mem (List.mem_filter.mpr ⟨hw, decide_eq_true (by omega)⟩)
/-! far apart -/
def pr_apart (x g : D) (G : GHp) (Q : DK) : Prop := ∃ (hs : List Int) (c : Int), x = lsI hs ∧ hs.length ≤ 1000 ∧ g = .int c ∧ hs.Pairwise (fun a b => c ≤ b - a) ∧ Q (.bl true) G
def sp_law_far_apart : DSp := sp2 fun x g G Q _ => pr_apart x g G Q
theorem filter_no {α : Type} (l : List α) : l.filter (fun _ => false) = [] := by simp
theorem rd_law_far_apart : ∀ x g G Q (E : DXK), pr_apart x g G Q → DRun (t_law_far_apart ) [some x, some g, none] G Q := by
  rintro x g G Q E ⟨l, c, rfl, h1, rfl, hp, h⟩
  have hl : (l.map D.int).length = l.length := List.length_map ..
  conv => whnf
  refine ⟨by unfold RgB; omega, ?_⟩
  refine lc_map (enc := fun (i : Nat) => D.int (0 + i)) (keep := fun _ => false) (f := fun i => D.int (0 + i)) (smallL (by rw [List.length_range]; omega)) trivial (fun i hi R hR => ?_) (fun d hd _ R hR => hR) ?_
  · have hi : (i : Int) + 1 < l.length := by have := List.mem_range.mp hi; omega
    conv => whnf
    refine atD_get (d := .int (l[i + 1]'(by omega))) (by omega) (by rw [hl]; omega) (by
      rw [show ((0 : Int) + (i : Int) + 1).toNat = i + 1 by omega, List.getElem?_map, List.getElem?_eq_getElem (by omega)]; rfl) ?_
    conv => whnf
    refine atD_get (d := .int (l[i]'(by omega))) (by omega) (by rw [hl]; omega) (by
      rw [show ((0 : Int) + (i : Int)).toNat = i by omega, List.getElem?_map, List.getElem?_eq_getElem (by omega)]; rfl) ?_
    conv => whnf
    have := List.pairwise_iff_getElem.mp hp i (i + 1) (by omega) (by omega) (by omega)
    rw [← decide_eq_false (show ¬ l[i + 1] - l[i] < c by omega)] at hR
    exact hR
  · rw [filter_no]
    conv => whnf
    refine ⟨smallL (by simp), ?_⟩
    exact eq_nilL .nil .nil h
end K73
set_option linter.all false
set_option maxRecDepth 100000
set_option maxHeartbeats 1000000
namespace K73
open PySem PySem.Spec L2 DL
/-- a row of t numbers from lo to hi -/
def RowOk (lo hi : Int) (t : Nat) (row : List Int) : Prop := row.length = t ∧ ∀ x ∈ row, lo ≤ x ∧ x ≤ hi
abbrev rowsD (rows : List (List Int)) : D := .lst (rows.map lsI)
def pr_lists (x y z : D) (G : GHp) (Q : DK) : Prop := ∃ (lo hi m : Int), x = .int lo ∧ y = .int hi ∧ z = .int m ∧ -1000000 ≤ lo ∧ lo ≤ hi ∧ hi ≤ lo + 12 ∧ lo ≤ 1000000 ∧ 0 ≤ m ∧ m ≤ 2 ∧
  ∀ rows : List (List Int), rows.length ≤ 1000 → (∀ row ∈ rows, RowOk lo hi m.toNat row) → Q (rowsD rows) G
def sp_law_lists : DSp := sp3 fun x y z G Q _ => pr_lists x y z G Q
theorem pow13 {t : Nat} (h : t ≤ 2) : 13 ^ t ≤ 169 ∧ (t ≤ 1 → 13 ^ t ≤ 13) := by
  match t, h with
  | 0, _ => decide
  | 1, _ => decide
  | 2, _ => decide
theorem rd_law_lists : ∀ x y z G Q (E : DXK), pr_lists x y z G Q → DRun (t_law_lists ) [some x, some y, some z, none, none, none, none, none, none] G Q := by
  rintro x y z G Q E ⟨lo, hi, m, rfl, rfl, rfl, b1, b2, b3, b4, b5, b6, h⟩
  conv => whnf
  refine ⟨smallL (by simp), smallL (by simp), ?_⟩
  conv => whnf
  refine ⟨by unfold RgB; omega, ?_⟩
  refine for_ind (enc := fun (i : Nat) => D.int (0 + i)) (fun r δ G' => G' = G ∧ ∃ t rows o4 o5 o6 o7, t + r.length = m.toNat ∧ δ = [some (.int lo), some (.int hi), some (.int m), some (rowsD rows), o4, o5, o6, o7, none] ∧ rows.length ≤ 13 ^ t ∧ ∀ row ∈ rows, RowOk lo hi t row) ?_ ?_ (List.range m.toNat) _ _ ⟨rfl, 0, [[]], none, none, none, none, by simp, rfl, by simp, ?_⟩
  · rintro δ _ ⟨rfl, t, rows, o4, o5, o6, o7, et, rfl, hl, hr⟩
    simp at et
    subst et
    exact ⟨trivial, h rows (by have := pow13 (t := m.toNat) (by omega); omega) hr⟩
  · rintro i r δ G ⟨rfl, t, rows, o4, o5, o6, o7, et, rfl, hl, hr⟩
    rw [List.length_cons] at et
    have ht : 13 ^ t ≤ 13 := (pow13 (t := t) (by omega)).2 (by omega)
    refine ⟨trivial, _, rfl, fun N hN => ?_⟩
    conv => whnf
    refine ⟨smallL (by simp), ?_⟩
    conv => whnf
    refine for_ind (enc := lsI) (fun r δ G' => G' = G ∧ ∃ pre acc o4 o6 o7, rows = pre ++ r ∧ δ = [some (.int lo), some (.int hi), some (.int m), some (rowsD rows), o4, some (rowsD acc), o6, o7, none] ∧ acc.length ≤ 13 * pre.length ∧ ∀ row ∈ acc, RowOk lo hi (t + 1) row) ?_ ?_ rows _ _ ⟨rfl, [], [], _, _, _, rfl, rfl, by simp, by simp⟩
    · rintro δ _ ⟨rfl, pre, acc, o4, o6, o7, ep, rfl, hl2, hr2⟩
      refine ⟨trivial, ?_⟩
      conv => whnf
      rw [List.append_nil] at ep
      subst ep
      refine hN _ _ ⟨rfl, t + 1, acc, _, _, _, _, by omega, rfl, by rw [Nat.pow_succ]; omega, hr2⟩
    · rintro row r2 δ G ⟨rfl, pre, acc, o4, o6, o7, ep, rfl, hl2, hr2⟩
      refine ⟨trivial, _, rfl, fun N2 hN2 => ?_⟩
      have hrow : RowOk lo hi t row := hr row (by rw [ep]; simp)
      have hpl : pre.length + 1 + r2.length = rows.length := by rw [ep]; simp; omega
      conv => whnf
      refine ⟨smallL (by simp), ?_⟩
      refine ne_nilL (.ints row) (.ints row) ?_
      -- what begin is
      have body : ∀ b : Int, lo ≤ b → b ≤ hi → dLcL false none (.nm 8) dYes (dOp dAddR (dVar 6) (dLst (dCons (dVar 8) dNil))) [some (.int lo), some (.int hi), some (.int m), some (rowsD rows), o4, some (rowsD acc), some (lsI row), some (.int b), none] (rngD b (hi + 1 - b).toNat) [] G (fun y G1 => dAddR (rowsD acc) y G1 fun d G2 => N2 [some (.int lo), some (.int hi), some (.int m), some (rowsD rows), o4, some d, some (lsI row), some (.int b), none] G2) := by
        intro b hb1 hb2
        refine lc_map (enc := fun (i : Nat) => D.int (b + i)) (keep := fun _ => true) (f := fun i => lsI (row ++ [b + i])) (smallL (by rw [List.length_range]; omega)) trivial (fun i hi R hR => hR) (fun i _ _ R hR => ?_) ?_
        · conv => whnf
          refine ⟨smallL (by simp), ?_⟩
          conv => whnf
          refine ⟨smallL (by rw [List.length_map, hrow.1]; simp; omega), ?_⟩
          rw [show row.map D.int ++ [D.int (b + i)] = (row ++ [b + (i : Int)]).map D.int by simp]
          exact hR
        · rw [filter_yes]
          conv => whnf
          refine ⟨smallL (by simp only [List.length_map, List.length_range]; omega), ?_⟩
          have em : acc.map lsI ++ (List.range (hi + 1 - b).toNat).map (fun (i : Nat) => lsI (row ++ [b + (i : Int)])) = (acc ++ (List.range (hi + 1 - b).toNat).map fun (i : Nat) => row ++ [b + (i : Int)]).map lsI := by
            rw [List.map_append, List.map_map]; rfl
          rw [em]
          refine hN2 _ _ ⟨rfl, pre ++ [row], _, _, _, _, by rw [ep]; simp, rfl, by simp; omega, fun row' hr' => ?_⟩
          rcases List.mem_append.mp hr' with hm | hm
          · exact hr2 row' hm
          · obtain ⟨i, hi', rfl⟩ := List.mem_map.mp hm
            have hi' := List.mem_range.mp hi'
            refine ⟨by rw [List.length_append, hrow.1]; rfl, fun x hx => ?_⟩
            rcases List.mem_append.mp hx with hx | hx
            · exact hrow.2 x hx
            · simp at hx; subst hx; omega
      cases row with
      | nil =>
        conv => whnf
        refine ⟨fun e => ft e, fun _ => ?_⟩
        conv => whnf
        refine ⟨by unfold RgB; omega, ?_⟩
        exact body lo (by omega) b2
      | cons a tl =>
        conv => whnf
        refine ⟨fun _ => ?_, fun e => tf e⟩
        have hlast := hrow.2 _ (last_mem (g := a :: tl) (by simp))
        conv => whnf
        refine last_at (g := a :: tl) (by simp) ?_
        conv => whnf
        refine ⟨by unfold RgB; omega, ?_⟩
        exact body _ hlast.1 hlast.2
  · intro row hm
    simp at hm
    subst hm
    exact ⟨rfl, by simp⟩
def pr_none_fewer (x r m : D) (G : GHp) (Q : DK) : Prop := ∃ (ns : List Int) (c : Int), x = lsI ns ∧ ns ≠ [] ∧ ns.length ≤ 1000 ∧ (∀ n ∈ ns, 0 ≤ n ∧ n ≤ 99999) ∧ 0 ≤ c ∧ c ≤ 1000000 ∧ r = .int c ∧ m = .int ((gr c (sortI ns)).length : Int) ∧ Q (.bl true) G
def sp_law_none_fewer : DSp := sp3 fun x r m G Q _ => pr_none_fewer x r m G Q
theorem rd_law_none_fewer : ∀ x r m G Q (E : DXK), pr_none_fewer x r m G Q → DRun (t_law_none_fewer sp_law_lists sp_law_reached) [some x, some r, some m, none, none, none] G Q := by
  rintro x r m G Q E ⟨ns, c, rfl, hne, hz, hn, hc0, hc1, rfl, rfl, h⟩
  obtain ⟨hm1, hm2⟩ := maxI_mem hne
  obtain ⟨hi1, hi2⟩ := minI_mem hne
  have hg := gr_ne hc0 hne
  have hgl : 0 < (gr c (sortI ns)).length := List.length_pos_iff.mpr hg
  have hb1 := hn _ hm1
  have hb2 := hn _ hi1
  have hb3 := hm2 _ hi1
  have hq : intsQ G (lsI ns) = some ns := sq_ints (.inl rfl)
  conv => whnf
  rw [hq]
  refine ⟨hne, ?_⟩
  conv => whnf
  rw [hq]
  refine ⟨hne, ?_⟩
  conv => whnf
  refine ⟨fun _ => by conv => whnf
                      exact ⟨fun _ => h, fun e => tf e⟩, fun e => ?_⟩
  have e : ¬ 12 < maxI ns - minI ns := of_decide_eq_false e
  conv => whnf
  refine ⟨fun _ => by conv => whnf
                      exact h, fun e2 => ?_⟩
  have e2 : ¬ (3 : Int) < ((gr c (sortI ns)).length : Int) := of_decide_eq_false e2
  conv => whnf
  refine ⟨_, _, _, rfl, rfl, rfl, by omega, hb3, by omega, by omega, by omega, by omega, fun rows hrl hrows => ?_⟩
  conv => whnf
  refine lc_map (enc := lsI) (keep := fun _ => false) (f := lsI) (smallL (by omega)) trivial (fun row hrow R hR => ?_) (fun _ _ _ R hR => hR) ?_
  · conv => whnf
    have hr := hrows row hrow
    refine ⟨ns, row, c, rfl, .inl rfl, hz, by rw [hr.1]; omega, rfl, ?_⟩
    have ef : (farL c ns row).isEmpty = false := by
      cases eb : (farL c ns row).isEmpty with
      | false => rfl
      | true =>
        have := gr_len_le hc0 ns row (reached_iff.mp eb)
        rw [hr.1] at this
        omega
    rw [ef]
    exact hR
  · rw [filter_no]
    conv => whnf
    refine ⟨smallL (by simp), ?_⟩
    exact eq_nilL .nil .nil h
end K73
set_option linter.all false
set_option maxRecDepth 100000
set_option maxHeartbeats 1000000
namespace K73
open PySem PySem.Spec L2 DL
/-- None, truths, whole numbers, lists and tuples of such, below depth n -/
def fz : Nat → D → Bool
  | 0, _ => false
  | _ + 1, .non => true
  | _ + 1, .bl _ => true
  | _ + 1, .int _ => true
  | n + 1, .tup ds => decide (ds.length ≤ 1000) && ds.all (fz n)
  | n + 1, .lst ds => decide (ds.length ≤ 1000) && ds.all (fz n)
  | _ + 1, _ => false
def pr_same (n : Nat) (x y : D) (G : GHp) (Q : DK) : Prop := ∃ S, Tree G S x y ∧ fz n y = true ∧ Q (.bl true) G
def sp_law_same_n (n : Nat) : DSp := sp2 fun x y G Q _ => pr_same n x y G Q
abbrev sp_law_same : DSp := sp_law_same_n 7
theorem no_law_same {ds : List D} {G : GHp} {Q : DK} {E : DXK} (h : sp_law_same_n 0 ds G Q E) : False := by
  match ds, h with
  | [x, y], ⟨S, _, h, _⟩ => cases h
theorem rd_law_same (n : Nat) : ∀ x y G Q (E : DXK), pr_same (n + 1) x y G Q → DRun (t_law_same (sp_law_same_n n)) [some x, some y, none] G Q := by
  rintro x y G Q E ⟨S, ht, hz, h⟩
  cases y with
  | non =>
    cases ht
    conv => whnf
    refine ⟨fun _ => ?_, fun e => tf e⟩
    conv => whnf
    refine ⟨fun _ => ?_, fun e => tf e⟩
    conv => whnf
    exact ⟨fun _ => h, fun e => tf e⟩
  | bl b =>
    cases ht
    conv => whnf
    refine ⟨fun e => ft e, fun _ => ?_⟩
    conv => whnf
    refine ⟨fun _ => ?_, fun e => tf e⟩
    conv => whnf
    refine ⟨fun e => ft e, fun _ => ?_⟩
    conv => whnf
    refine ⟨fun _ => ?_, fun e => tf e⟩
    conv => whnf
    exact qb (decide_eq_true rfl) h
  | int i =>
    cases ht
    conv => whnf
    refine ⟨fun e => ft e, fun _ => ?_⟩
    conv => whnf
    refine ⟨fun e => ft e, fun _ => ?_⟩
    conv => whnf
    refine ⟨fun _ => ?_, fun e => tf e⟩
    conv => whnf
    refine ⟨fun _ => ?_, fun e => tf e⟩
    conv => whnf
    refine ⟨fun _ => ?_, fun e => tf e⟩
    conv => whnf
    exact qb (decide_eq_true (by omega)) h
  | lst ts =>
    have hz : (decide (ts.length ≤ 1000) && ts.all (fz n)) = true := hz
    rw [Bool.and_eq_true] at hz
    have hl := of_decide_eq_true hz.1
    have hall := List.all_eq_true.mp hz.2
    have key : ∀ (ds : List D), Trees G S ds ts → (x = .lst ds ∨ ∃ a, x = .ref a ∧ G a = some (.lst ds)) → DRun (t_law_same (sp_law_same_n n)) [some x, some (.lst ts), none] G Q := by
      intro ds tr hx
      have el := tr.length
      rcases hx with rfl | ⟨a, rfl, ha⟩
      · conv => whnf
        refine ⟨fun e => ft e, fun _ => ?_⟩
        conv => whnf
        refine ⟨fun e => ft e, fun _ => ?_⟩
        conv => whnf
        refine ⟨fun e => ft e, fun _ => ?_⟩
        conv => whnf
        refine ⟨fun e => ft e, fun _ => ?_⟩
        conv => whnf
        refine ⟨fun e => ft e, fun _ => ?_⟩
        conv => whnf
        refine ⟨fun e => ft e, fun _ => ?_⟩
        conv => whnf
        refine ⟨fun _ => ?_, fun e => absurd (of_decide_eq_false e) (fun q => q (by rw [el]))⟩
        conv => whnf
        refine ⟨by unfold RgB; omega, ?_⟩
        refine lc_map (enc := fun (i : Nat) => D.int (0 + i)) (keep := fun _ => false) (f := fun i => D.int (0 + i)) (smallL (by rw [List.length_range]; omega)) trivial (fun i hi R hR => ?_) (fun d hd _ R hR => hR) ?_
        · have hi : i < ts.length := by have := List.mem_range.mp hi; omega
          conv => whnf
          refine atD_get (d := ds[i]'(by omega)) (by omega) (by omega) (by rw [show ((0 : Int) + (i : Int)).toNat = i by omega, List.getElem?_eq_getElem (by omega)]) ?_
          conv => whnf
          refine atD_get (d := ts[i]) (by omega) (by omega) (by rw [show ((0 : Int) + (i : Int)).toNat = i by omega, List.getElem?_eq_getElem (by omega)]) ?_
          conv => whnf
          obtain ⟨t, e1, e2⟩ := tr.get (i := i) (d := ds[i]'(by omega)) (List.getElem?_eq_getElem (by omega))
          rw [List.getElem?_eq_getElem hi] at e1
          cases e1
          refine ⟨S, e2, hall _ (List.getElem_mem hi), ?_⟩
          exact hR
        · rw [filter_no]
          conv => whnf
          refine ⟨smallL (by simp), ?_⟩
          exact eq_nilL .nil .nil h
      · conv => whnf
        refine ⟨fun e => ft e, fun _ => ?_⟩
        conv => whnf
        refine ⟨fun e => ft e, fun _ => ?_⟩
        conv => whnf
        refine ⟨fun e => ft e, fun _ => ?_⟩
        conv => whnf
        refine ⟨fun e => ft e, fun _ => ?_⟩
        conv => whnf
        rw [show tgOf G (.ref a) = some .lst by unfold tgOf; simp only [ha]]
        conv => whnf
        refine ⟨fun e => ft e, fun _ => ?_⟩
        conv => whnf
        rw [show tgOf G (.ref a) = some .lst by unfold tgOf; simp only [ha]]
        conv => whnf
        refine ⟨fun e => ft e, fun _ => ?_⟩
        conv => whnf
        rw [lsOf_ref ha]
        conv => whnf
        refine ⟨fun _ => ?_, fun e => absurd (of_decide_eq_false e) (fun q => q (by rw [el]))⟩
        conv => whnf
        refine ⟨by unfold RgB; omega, ?_⟩
        refine lc_map (enc := fun (i : Nat) => D.int (0 + i)) (keep := fun _ => false) (f := fun i => D.int (0 + i)) (smallL (by rw [List.length_range]; omega)) trivial (fun i hi R hR => ?_) (fun d hd _ R hR => hR) ?_
        · have hi : i < ts.length := by have := List.mem_range.mp hi; omega
          conv => whnf
          rw [lsOf_ref ha]
          refine atD_get (d := ds[i]'(by omega)) (by omega) (by omega) (by rw [show ((0 : Int) + (i : Int)).toNat = i by omega, List.getElem?_eq_getElem (by omega)]) ?_
          conv => whnf
          refine atD_get (d := ts[i]) (by omega) (by omega) (by rw [show ((0 : Int) + (i : Int)).toNat = i by omega, List.getElem?_eq_getElem (by omega)]) ?_
          conv => whnf
          obtain ⟨t, e1, e2⟩ := tr.get (i := i) (d := ds[i]'(by omega)) (List.getElem?_eq_getElem (by omega))
          rw [List.getElem?_eq_getElem hi] at e1
          cases e1
          refine ⟨S, e2, hall _ (List.getElem_mem hi), ?_⟩
          exact hR
        · rw [filter_no]
          conv => whnf
          refine ⟨smallL (by simp), ?_⟩
          exact eq_nilL .nil .nil h
    cases ht with
    | same => exact key ts (Trees.same ts) (.inl rfl)
    | lst tr => exact key _ tr (.inl rfl)
    | ref hs ha tr => exact key _ tr (.inr ⟨_, rfl, ha⟩)
  | tup ts =>
    have hz : (decide (ts.length ≤ 1000) && ts.all (fz n)) = true := hz
    rw [Bool.and_eq_true] at hz
    have hl := of_decide_eq_true hz.1
    have hall := List.all_eq_true.mp hz.2
    have key : ∀ (ds : List D), Trees G S ds ts → DRun (t_law_same (sp_law_same_n n)) [some (.tup ds), some (.tup ts), none] G Q := by
      intro ds tr
      have el := tr.length
      conv => whnf
      refine ⟨fun e => ft e, fun _ => ?_⟩
      conv => whnf
      refine ⟨fun e => ft e, fun _ => ?_⟩
      conv => whnf
      refine ⟨fun e => ft e, fun _ => ?_⟩
      conv => whnf
      refine ⟨fun e => ft e, fun _ => ?_⟩
      conv => whnf
      refine ⟨fun e => ft e, fun _ => ?_⟩
      conv => whnf
      refine ⟨fun e => ft e, fun _ => ?_⟩
      conv => whnf
      refine ⟨fun _ => ?_, fun e => absurd (of_decide_eq_false e) (fun q => q (by rw [el]))⟩
      conv => whnf
      refine ⟨by unfold RgB; omega, ?_⟩
      refine lc_map (enc := fun (i : Nat) => D.int (0 + i)) (keep := fun _ => false) (f := fun i => D.int (0 + i)) (smallL (by rw [List.length_range]; omega)) trivial (fun i hi R hR => ?_) (fun d hd _ R hR => hR) ?_
      · have hi : i < ts.length := by have := List.mem_range.mp hi; omega
        conv => whnf
        refine atD_get (d := ds[i]'(by omega)) (by omega) (by omega) (by rw [show ((0 : Int) + (i : Int)).toNat = i by omega, List.getElem?_eq_getElem (by omega)]) ?_
        conv => whnf
        refine atD_get (d := ts[i]) (by omega) (by omega) (by rw [show ((0 : Int) + (i : Int)).toNat = i by omega, List.getElem?_eq_getElem (by omega)]) ?_
        conv => whnf
        obtain ⟨t, e1, e2⟩ := tr.get (i := i) (d := ds[i]'(by omega)) (List.getElem?_eq_getElem (by omega))
        rw [List.getElem?_eq_getElem hi] at e1
        cases e1
        refine ⟨S, e2, hall _ (List.getElem_mem hi), ?_⟩
        exact hR
      · rw [filter_no]
        conv => whnf
        refine ⟨smallL (by simp), ?_⟩
        exact eq_nilL .nil .nil h
    cases ht with
    | same => exact key ts (Trees.same ts)
    | tup tr => exact key _ tr
  | _ => cases hz
end K73
set_option linter.all false
set_option maxRecDepth 100000
set_option maxHeartbeats 1000000
namespace K73
open PySem PySem.Spec L2 DL
/-- a box at p, drawn from k times at most; all else as in G0 -/
def Bk (G0 : GHp) (p : Addr) (k : Nat) (G : GHp) : Prop := (∃ s : Bx, G p = some s.go ∧ s.Ok k) ∧ ∀ b, b ≠ p → G b = G0 b
theorem Bk.mono {G0 G : GHp} {p : Addr} {j k : Nat} (h : Bk G0 p j G) (hk : j ≤ k) : Bk G0 p k G := by
  obtain ⟨⟨s, h1, h2⟩, h3⟩ := h
  exact ⟨⟨s, h1, h2.mono hk⟩, h3⟩
theorem tk {sp : DSp} (hsp : ∀ ds G Q E, spTake ds G Q E → sp ds G Q E) {G0 G : GHp} {p : Addr} {k : Nat} {n : Int} {Q : DK} {E : DXK} (B : Bk G0 p k G) (hk : k < 1000000) (hn : 0 < n) (hb : n < 2 ^ 64) (h : ∀ v G', 0 ≤ v → v < n → Bk G0 p (k + 1) G' → Q (.int v) G') : sp [.ref p, .int n] G Q E := by
  apply hsp
  obtain ⟨⟨s, h1, h2⟩, h3⟩ := B
  refine ⟨p, s, k, n, rfl, h1, h2, by omega, rfl, hn, Nat.lt_of_lt_of_le (show n.natAbs < 2 ^ 64 by omega) (Nat.pow_le_pow_right (by decide) (by decide)), fun v s' a b c => h v _ a b ⟨⟨s', gupd_same, c⟩, fun b hb => ?_⟩⟩
  rw [gupd_ne hb]; exact h3 b hb
theorem Bk.put {G0 G : GHp} {p q : Addr} {k : Nat} {o o' : GO} (B : Bk (gupd G0 q o) p k G) (hq : q ≠ p) : Bk (gupd G0 q o') p k (gupd G q o') := by
  obtain ⟨⟨s, h1, h2⟩, h3⟩ := B
  refine ⟨⟨s, gupd_at hq.symm h1, h2⟩, fun b hb => ?_⟩
  by_cases e : b = q
  · subst e; rw [gupd_same, gupd_same]
  · rw [gupd_ne e, gupd_ne e, h3 b hb, gupd_ne e]
theorem Bk.new {G0 G : GHp} {p q : Addr} {k : Nat} {o : GO} (B : Bk G0 p k G) (hq : q ≠ p) : Bk (gupd G0 q o) p k (gupd G q o) := by
  obtain ⟨⟨s, h1, h2⟩, h3⟩ := B
  refine ⟨⟨s, gupd_at hq.symm h1, h2⟩, fun b hb => ?_⟩
  by_cases e : b = q
  · subst e; rw [gupd_same, gupd_same]
  · rw [gupd_ne e, gupd_ne e, h3 b hb]
theorem Bk.at_ {G0 G : GHp} {p q : Addr} {k : Nat} {o : GO} (B : Bk (gupd G0 q o) p k G) (hq : q ≠ p) : G q = some o := by rw [B.2 q hq, gupd_same]
theorem Bk.ne {G0 G : GHp} {p q : Addr} {k : Nat} (B : Bk G0 p k G) (hq : G q = none) : q ≠ p := fun e => by
  obtain ⟨⟨s, h1, _⟩, _⟩ := B
  rw [e, h1] at hq; cases hq
/-- distances as drawn -/
def DOk (ns : List Int) : Prop := 1 ≤ ns.length ∧ ns.length ≤ 100 ∧ ∀ n ∈ ns, 0 ≤ n ∧ n ≤ 99999
def pr_distances (x r : D) (G : GHp) (Q : DK) : Prop := ∃ (G0 : GHp) (p : Addr) (k : Nat) (c : Int), x = .ref p ∧ Bk G0 p k G ∧ k ≤ 10000 ∧ r = .int c ∧ 0 ≤ c ∧ c ≤ 99999 ∧ ∀ ns G', DOk ns → Bk G0 p (k + 1000) G' → Q (lsI ns) G'
def sp_law_distances : DSp := sp2 fun x r G Q _ => pr_distances x r G Q
theorem rd_law_distances {K : PySem.W.Frag} : ∀ x r G Q (E : DXK), pr_distances x r G Q → DRun (t_law_distances K spTake) [some x, some r, none, none, none, none, none, none] G Q := by
  intro x r G Q E h
  have key : ∀ sp : DSp, (∀ ds G Q E, spTake ds G Q E → sp ds G Q E) → DRun (t_law_distances K sp) [some x, some r, none, none, none, none, none, none] G Q := by
    intro sp hsp
    obtain ⟨G0, p, k, c, rfl, B, hk, rfl, hc0, hc1, h⟩ := h
    conv => whnf
    refine tk hsp B (by omega) (by omega) (by omega) fun v1 G a0 a1 B => ?_
    conv => whnf
    refine tk hsp B (by omega) (by omega) (by omega) fun v2 G b0 b1 B => ?_
    conv => whnf
    refine ⟨smallL (by simp), ?_⟩
    conv => whnf
    refine tk hsp B (by omega) (by omega) (by omega) fun v3 G _ _ B => ?_
    conv => whnf
    have hif : 0 ≤ (if decide (v3 = 0) = true then (1 : Int) else 0) ∧ (if decide (v3 = 0) = true then (1 : Int) else 0) < 2 := by split <;> omega
    have many : ∃ m : Int, 1 ≤ m ∧ m ≤ 100 ∧ ∀ R : D → Prop, R (.int m) → atD [D.int (1 + v1), D.int (1 + v2)] (if decide (v3 = 0) = true then 1 else 0) R := by
      by_cases e : v3 = 0
      · refine ⟨1 + v2, by omega, by omega, fun R h => ?_⟩
        rw [decide_eq_true e]; exact h
      · refine ⟨1 + v1, by omega, by omega, fun R h => ?_⟩
        rw [decide_eq_false e]; exact h
    obtain ⟨m, m1, m2, hm⟩ := many
    refine hm _ ?_
    conv => whnf
    refine tk hsp B (by omega) (by omega) (by omega) fun v4 G _ _ B => ?_
    conv => whnf
    refine tk hsp B (by omega) (by omega) (by omega) fun v5 G _ _ B => ?_
    conv => whnf
    refine ⟨smallL (by simp), ?_⟩
    conv => whnf
    refine tk hsp B (by omega) (by omega) (by omega) fun v6 G _ _ B => ?_
    conv => whnf
    refine atD_of (by omega) (by simpa using by omega) fun d hd => ?_
    have hd : ∃ f, d = .int f ∧ 0 ≤ f ∧ f ≤ 99999 := by
      simp only [List.mem_cons, List.not_mem_nil, or_false] at hd
      rcases hd with rfl | rfl | rfl | rfl
      · exact ⟨_, rfl, by omega, by omega⟩
      · exact ⟨_, rfl, by omega, by omega⟩
      · exact ⟨_, rfl, by omega, by omega⟩
      · exact ⟨_, rfl, by omega, by omega⟩
    obtain ⟨f, rfl, f0, f1⟩ := hd
    conv => whnf
    refine ⟨smallL (by simp), fun q hq => ?_⟩
    have hqp := B.ne hq
    have hq0 : G0 q = none := by rw [← B.2 q hqp]; exact hq
    conv => whnf
    refine ⟨by unfold RgB; omega, ?_⟩
    refine for_ind (enc := fun (i : Nat) => D.int (0 + i)) (fun r δ G' => ∃ i ns o4 o5 o6 o7, i + r.length = (m - 1).toNat ∧ δ = [some (.ref p), some (.int c), some (.int m), some (.ref q), o4, o5, o6, o7] ∧ ns.length = i + 1 ∧ (∀ n ∈ ns, 0 ≤ n ∧ n ≤ 99999) ∧ Bk (gupd G0 q (.lst (ns.map .int))) p (k + 6 + 6 * i) G') ?_ ?_ (List.range (m - 1).toNat) _ _
      ⟨0, [f], none, none, none, none, by simp, rfl, rfl, by simp [f0, f1], B.new hqp⟩
    · rintro δ G' ⟨i, ns, o4, o5, o6, o7, ei, rfl, hl, hn, B⟩
      refine ⟨trivial, ?_⟩
      simp at ei
      conv => whnf
      refine ⟨[some (.ref p), some (.int c), some (.int m), some (lsI ns), none, none, none, none], gupd G0 p ((B.1.choose).go), View.tree (fun a => a = q) (fun a e => by rw [e, gupd_ne hqp]; exact hq0) (fun a o e => .inl ?_)
        (.cons (.so (.same _)) (.cons (.so (.same _)) (.cons (.so (.same _)) (.cons (.so (.ref rfl (B.at_ hqp) (.same _))) (.cons (.no _) (.cons (.no _) (.cons (.no _) (.cons (.no _) .nil)))))))), ?_⟩
      · by_cases ea : a = p
        · subst ea
          rw [gupd_same] at e
          rw [B.1.choose_spec.1, e]
        · rw [gupd_ne ea] at e
          rw [B.2 a ea, gupd_ne (fun e2 => by rw [e2, hq0] at e; cases e)]
          exact e
      · exact h ns _ ⟨by omega, by omega, hn⟩ ⟨⟨_, gupd_same, B.1.choose_spec.2.mono (by omega)⟩, fun b hb => gupd_ne hb⟩
    · rintro j r δ G' ⟨i, ns, o4, o5, o6, o7, ei, rfl, hl, hn, B⟩
      rw [List.length_cons] at ei
      refine ⟨trivial, _, rfl, fun N hN => ?_⟩
      have hml : (ns.map D.int).length = ns.length := List.length_map ..
      conv => whnf
      rw [lsOf_ref (B.at_ hqp)]
      conv => whnf
      refine tk hsp B (by omega) (by omega) (by omega) fun w1 G u0 u1 B => ?_
      conv => whnf
      rw [lsOf_ref (B.at_ hqp)]
      refine atD_of u0 u1 fun d hd => ?_
      obtain ⟨z1, hz1, rfl⟩ := List.mem_map.mp hd
      conv => whnf
      refine ⟨mul_small (.inl (by omega)), ?_⟩
      conv => whnf
      refine ⟨mul_small (.inl (by omega)), ?_⟩
      conv => whnf
      refine tk hsp B (by omega) (by omega) (by omega) fun w2 G _ _ B => ?_
      conv => whnf
      refine tk hsp B (by omega) (by omega) (by omega) fun w3 G _ _ B => ?_
      conv => whnf
      refine ⟨smallL (by simp), ?_⟩
      conv => whnf
      refine tk hsp B (by omega) (by omega) (by omega) fun w4 G _ _ B => ?_
      conv => whnf
      refine atD_of (by omega) (by simpa using by omega) fun d hd => ?_
      have hd : ∃ f, d = D.int f := by
        simp only [List.mem_cons, List.not_mem_nil, or_false] at hd
        rcases hd with rfl | rfl | rfl | rfl | rfl <;> exact ⟨_, rfl⟩
      obtain ⟨z2, rfl⟩ := hd
      conv => whnf
      refine tk hsp B (by omega) (by omega) (by omega) fun w5 G _ _ B => ?_
      have put : ∀ (z : Int) (o7 : Option D) (G : GHp), 0 ≤ z → z ≤ 99999 → Bk (gupd G0 q (.lst (ns.map .int))) p (k + 6 + 6 * i + 6) G → N [some (.ref p), some (.int c), some (.int m), some (.ref q), some (.int (0 + j)), some (.int z1), some (.int z2), o7] (gupd G q (.lst (ns.map .int ++ [.int z]))) := fun z o7 G z0 z1 B => by
        refine hN _ _ ⟨i + 1, ns ++ [z], _, _, _, _, by omega, rfl, by simp [hl], fun n hm => ?_, ?_⟩
        · rcases List.mem_append.mp hm with hm | hm
          · exact hn n hm
          · simp at hm; subst hm; omega
        · rw [List.map_append]
          exact (B.put hqp).mono (by omega)
      conv => whnf
      refine ⟨fun _ => ?_, fun _ => ?_⟩
      all_goals
        conv => whnf
        rw [lsOf_ref (B.at_ hqp)]
        conv => whnf
        refine ⟨fun e1 => ?_, fun e1 => ?_⟩
        · conv => whnf
          refine ⟨fun e2 => ?_, fun e2 => ?_⟩
          · conv => whnf
            rw [B.at_ hqp]
            conv => whnf
            refine ⟨smallLt (by omega), ?_⟩
            conv => whnf
            exact put _ _ _ (of_decide_eq_true e1) (of_decide_eq_true e2) (B.mono (by omega))
          · conv => whnf
            refine tk hsp B (by omega) (by omega) (by omega) fun w6 G _ _ B => ?_
            conv => whnf
            rw [B.at_ hqp]
            conv => whnf
            refine ⟨smallLt (by omega), ?_⟩
            conv => whnf
            exact put _ _ _ (by omega) (by omega) (B.mono (by omega))
        · conv => whnf
          refine ⟨fun e2 => ft e2, fun _ => ?_⟩
          conv => whnf
          refine tk hsp B (by omega) (by omega) (by omega) fun w6 G _ _ B => ?_
          conv => whnf
          rw [B.at_ hqp]
          conv => whnf
          refine ⟨smallLt (by omega), ?_⟩
          conv => whnf
          exact put _ _ _ (by omega) (by omega) (B.mono (by omega))
  exact key _ fun _ _ _ _ h => h
end K73
set_option linter.all false
set_option maxRecDepth 100000
set_option maxHeartbeats 1000000
namespace K73
open PySem PySem.Spec L2 DL
theorem fz_ints {n : Nat} {l : List Int} (h : l.length ≤ 1000) : fz (n + 2) (lsI l) = true := by
  show (decide ((l.map D.int).length ≤ 1000) && (l.map D.int).all (fz (n + 1))) = true
  rw [List.length_map, decide_eq_true h, Bool.true_and, List.all_eq_true]
  intro x hx
  obtain ⟨i, _, rfl⟩ := List.mem_map.mp hx
  rfl
theorem ws_len {c : Int} (hc : 0 ≤ c) (ns : List Int) : (ws c ns).length ≤ ns.length := by rw [List.length_map]; exact gr_len hc ns
theorem hs_len {c : Int} (hc : 0 ≤ c) (ns : List Int) : (hs c ns).length ≤ ns.length := by rw [List.length_map]; exact gr_len hc ns
theorem far_empty {c : Int} (hc : 0 ≤ c) (ns : List Int) : (farL c ns (ws c ns)).isEmpty = true := reached_iff.mpr (gr_reach hc ns)
theorem hs_far {c : Int} (hc : 0 ≤ c) (ns : List Int) : (hs c ns).Pairwise fun a b => 2 * c + 1 ≤ b - a := (gr_far hc ns).imp fun {a b} h => by omega
def pr_right (x y : D) (G : GHp) (Q : DK) : Prop := ∃ (G0 : GHp) (p : Addr) (k : Nat) (ns : List Int), x = .ref p ∧ Bk G0 p k G ∧ k ≤ 10000 ∧ y = lsI ns ∧ DOk ns ∧ ∀ G', Q (.bl true) G'
def sp_law_reach_right : DSp := sp2 fun x y G Q _ => pr_right x y G Q
theorem rd_law_reach_right : ∀ x y G Q (E : DXK), pr_right x y G Q → DRun (t_law_reach_right spTake sp_least_reach sp_law_same sp_law_due sp_law_reached sp_law_far_apart) [some x, some y, none, none, none, none] G Q := by
  intro x y G Q E h
  have key : ∀ sp : DSp, (∀ ds G Q E, spTake ds G Q E → sp ds G Q E) → DRun (t_law_reach_right sp sp_least_reach sp_law_same sp_law_due sp_law_reached sp_law_far_apart) [some x, some y, none, none, none, none] G Q := by
    intro sp hsp
    obtain ⟨G0, p, k, ns, rfl, B, hk, rfl, ⟨d0, d1, d2⟩, h⟩ := h
    conv => whnf
    refine ⟨smallL (by simp), ?_⟩
    conv => whnf
    refine tk hsp B (by omega) (by omega) (by omega) fun v1 G a0 a1 B => ?_
    conv => whnf
    refine atD_of a0 (by simpa using a1) fun d hd => ?_
    have hd : ∃ f, d = .int f ∧ 3 ≤ f ∧ f ≤ 12 := by
      simp only [List.mem_cons, List.not_mem_nil, or_false] at hd
      rcases hd with rfl | rfl
      · exact ⟨_, rfl, by omega, by omega⟩
      · exact ⟨_, rfl, by omega, by omega⟩
    obtain ⟨f, rfl, f0, f1⟩ := hd
    conv => whnf
    refine tk hsp B (by omega) (by omega) (by omega) fun v2 G b0 b1 B => ?_
    conv => whnf
    refine ⟨ns, 1 + v2, .inl rfl, d0, d1, d2, by omega, by omega, rfl, fun r hr q hq => ?_⟩
    obtain ⟨r0, r1, r2, r3⟩ := id hr
    have lw := ws_len r0 ns
    have lh := hs_len r0 ns
    conv => whnf
    refine ⟨fun e => ft e, fun _ => ?_⟩
    conv => whnf
    refine ⟨fun e => ft e, fun _ => ?_⟩
    conv => whnf
    refine ⟨fun e => ft e, fun _ => ?_⟩
    conv => whnf
    refine ⟨fun e => ft e, fun _ => ?_⟩
    conv => whnf
    refine ⟨fun _ => ?_, fun e => absurd r0 (of_decide_eq_false e)⟩
    conv => whnf
    refine ⟨fun e => ?_, fun _ => ?_⟩
    · exfalso
      have e : (!decide (r ≤ 99999)) = true := e
      rw [decide_eq_true r1] at e
      exact ft e
    conv => whnf
    refine ⟨ns, r, rfl, by omega, r0, by omega, rfl, ?_⟩
    conv => whnf
    refine ⟨fun a => a = q, .ref rfl gupd_same (.same _), fz_ints (by omega), ?_⟩
    conv => whnf
    refine ⟨fun e => ft e, fun _ => ?_⟩
    conv => whnf
    rw [lsOf_ref gupd_same]
    conv => whnf
    refine ⟨fun e => ?_, fun _ => ?_⟩
    · exfalso
      have e : 1 + v2 < (((ws r ns).map D.int).length : Int) := of_decide_eq_true e
      simp only [List.length_map] at e
      omega
    -- MARK
    conv => whnf
    refine ⟨fun e => ?_, fun e => ?_⟩
    · have e : 0 < r := of_decide_eq_true e
      conv => whnf
      refine ⟨ns, r - 1, rfl, by omega, by omega, by omega, rfl, ?_⟩
      conv => whnf
      have ec : cutD ((hs (r - 1) ns).map .int) none (some (1 + v2 + 1)) = (ap ns (1 + v2) r).map .int := by
        unfold ap
        rw [if_pos e, cutD_take (by omega), List.map_take]
      have lap : (ap ns (1 + v2) r).length = (1 + v2 + 1).toNat := by
        unfold ap
        rw [if_pos e, List.length_take, List.length_map]
        have := r3 e
        omega
      refine ⟨fun _ => False, ?_, ?_, ?_⟩
      · show DL.Tree _ _ (lsI (ap ns (1 + v2) r)) (.lst (cutD ((hs (r - 1) ns).map .int) none (some (1 + v2 + 1))))
        rw [ec]; exact .same _
      · show fz 7 (.lst (cutD ((hs (r - 1) ns).map .int) none (some (1 + v2 + 1)))) = true
        rw [ec]; exact fz_ints (by omega)
      conv => whnf
      refine ⟨fun e => ft e, fun _ => ?_⟩
      conv => whnf
      refine ⟨ns, ws r ns, r, rfl, .inr ⟨q, rfl, gupd_same⟩, by omega, by omega, rfl, ?_⟩
      rw [far_empty r0]
      conv => whnf
      refine ⟨fun e => ft e, fun _ => ?_⟩
      conv => whnf
      refine ⟨fun _ => ?_, fun e2 => absurd e (of_decide_eq_false e2)⟩
      conv => whnf
      refine ⟨fun e2 => ?_, fun _ => ?_⟩
      · exfalso
        have e2 : (!decide (((cutD ((hs (r - 1) ns).map .int) none (some (1 + v2 + 1))).length : Int) = 1 + v2 + 1)) = true := e2
        rw [ec, List.length_map, decide_eq_true (by omega)] at e2
        exact ft e2
      conv => whnf
      refine ⟨mul_small (.inl (by omega)), ?_⟩
      conv => whnf
      refine ⟨ap ns (1 + v2) r, 2 * r - 1, by show D.lst (cutD ((hs (r - 1) ns).map .int) none (some (1 + v2 + 1))) = _; rw [ec], by omega, rfl, ?_, ?_⟩
      · unfold ap
        rw [if_pos e]
        refine List.Pairwise.sublist (List.take_sublist _ _) ((hs_far (by omega) ns).imp fun {a b} hab => by omega)
      conv => whnf
      refine ⟨fun e => ft e, fun _ => ?_⟩
      conv => whnf
      rw [lsOf_ref gupd_same]
      conv => whnf
      rw [gupd_same]
      conv => whnf
      refine ⟨smallLt (by rw [List.length_map]; omega), ?_⟩
      conv => whnf
      refine ⟨rfl, rfl, ?_⟩
      conv => whnf
      refine ⟨ns, 1 + v2, .inr rfl, d0, d1, d2, by omega, by omega, rfl, fun r' hr' q' hq' => ?_⟩
      have er := hr.unique hr'
      subst er
      conv => whnf
      refine ⟨fun _ => False, .same _, rfl, ?_⟩
      exact h _
    · have e : ¬ 0 < r := of_decide_eq_false e
      have ea : ap ns (1 + v2) r = [] := by unfold ap; rw [if_neg e]
      conv => whnf
      refine ⟨smallL (by simp), ?_⟩
      conv => whnf
      refine ⟨fun _ => False, ?_, rfl, ?_⟩
      · show DL.Tree _ _ (lsI (ap ns (1 + v2) r)) (.lst [])
        rw [ea]; exact .same _
      conv => whnf
      refine ⟨fun e => ft e, fun _ => ?_⟩
      conv => whnf
      refine ⟨ns, ws r ns, r, rfl, .inr ⟨q, rfl, gupd_same⟩, by omega, by omega, rfl, ?_⟩
      rw [far_empty r0]
      conv => whnf
      refine ⟨fun e => ft e, fun _ => ?_⟩
      conv => whnf
      refine ⟨fun e2 => absurd (of_decide_eq_true e2) e, fun _ => ?_⟩
      conv => whnf
      refine ⟨fun e => ft e, fun _ => ?_⟩
      conv => whnf
      rw [lsOf_ref gupd_same]
      conv => whnf
      rw [gupd_same]
      conv => whnf
      refine ⟨smallLt (by rw [List.length_map]; omega), ?_⟩
      conv => whnf
      refine ⟨rfl, rfl, ?_⟩
      conv => whnf
      refine ⟨ns, 1 + v2, .inr rfl, d0, d1, d2, by omega, by omega, rfl, fun r' hr' q' hq' => ?_⟩
      have er := hr.unique hr'
      subst er
      conv => whnf
      refine ⟨fun _ => False, .same _, rfl, ?_⟩
      exact h _
  exact key _ fun _ _ _ _ h => h
end K73
set_option linter.all false
set_option maxRecDepth 100000
set_option maxHeartbeats 1000000
namespace K73
open PySem PySem.Spec L2 DL
theorem fz_pair {n : Nat} {l m : List Int} (h : l.length ≤ 1000) (h2 : m.length ≤ 1000) : fz (n + 3) (.tup [lsI l, lsI m]) = true := by
  show (decide ([lsI l, lsI m].length ≤ 1000) && [lsI l, lsI m].all (fz (n + 2))) = true
  simp [fz_ints h, fz_ints h2]
abbrev sp_law : DSp := spLaw 63
theorem rd_law {K : PySem.W.Frag} : ∀ a G Q (E : DXK), (∃ ns : List Int, a = D.scr (ns.map .int) ∧ ns.length ≤ 63 ∧ (∀ z ∈ ns, Builtin.Int.intBits z ≤ 1048576) ∧ (∀ a, G a = none) ∧ Q (.bl true) G) →
    DRun (t_law K sp_law_box sp_law_cell sp_law_take sp_law_distances sp_law_due sp_fewest_worths sp_law_same sp_law_reached sp_law_far_apart sp_law_none_fewer sp_law_reach_right) [some a, none, none, none, none, none, none, none, none, none] G Q := by
  intro a G Q E h
  have key : ∀ sp : DSp, (∀ ds G Q E, spTake ds G Q E → sp ds G Q E) → DRun (t_law K sp_law_box sp_law_cell sp sp_law_distances sp_law_due sp_fewest_worths sp_law_same sp_law_reached sp_law_far_apart sp_law_none_fewer sp_law_reach_right) [some a, none, none, none, none, none, none, none, none, none] G Q := by
    intro sp hsp
    obtain ⟨sc, rfl, hsl, _, hG, h⟩ := h
    have hml : (sc.map D.int).length = sc.length := List.length_map ..
    conv => whnf
    refine ⟨by unfold RgB; omega, ?_⟩
    refine for_ind (enc := fun (i : Nat) => D.int (0 + i)) (fun r δ G' => ∃ i : Nat, i + r.length ≤ 100 ∧ (∀ j ∈ r, j ≤ 100) ∧ ∃ o1 o2 o3 o4 o5 o6 o7 o8, δ = [some (.scr (sc.map .int)), o1, o2, o3, o4, o5, o6, o7, o8, none]) ?_ ?_ (List.range _) _ _
      ⟨0, by rw [List.length_range]; omega, fun j hj => by have := List.mem_range.mp hj; omega, _, _, _, _, _, _, _, _, rfl⟩
    · rintro δ G' ⟨_, _, _, o1, o2, o3, o4, o5, o6, o7, o8, rfl⟩
      refine ⟨trivial, ?_⟩
      conv => whnf
      refine ⟨_, G, View.tree (fun _ => True) (fun a _ => hG a) (fun a o e => by rw [hG] at e; cases e) (TreeSt.same _), ?_⟩
      exact h
    · rintro j r δ G' ⟨i, hi, hj, o1, o2, o3, o4, o5, o6, o7, o8, rfl⟩
      have hj0 := hj j List.mem_cons_self
      rw [List.length_cons] at hi
      refine ⟨trivial, _, rfl, fun N hN => ?_⟩
      conv => whnf
      refine ⟨sc, 0 + j, rfl, rfl, by omega, by omega, fun z => ?_⟩
      conv => whnf
      refine ⟨z, rfl, fun p s hp hs => ?_⟩
      have B : Bk G' p 0 (gupd G' p s.go) := ⟨⟨s, gupd_same, hs⟩, fun b hb => gupd_ne hb⟩
      conv => whnf
      generalize gupd G' p s.go = G0 at B ⊢
      refine tk hsp B (by omega) (by omega) (by omega) fun v1 G0 _ _ B => ?_
      conv => whnf
      refine tk hsp B (by omega) (by omega) (by omega) fun v2 G0 _ _ B => ?_
      conv => whnf
      refine tk hsp B (by omega) (by omega) (by omega) fun v3 G0 _ _ B => ?_
      conv => whnf
      refine ⟨smallL (by simp), ?_⟩
      conv => whnf
      refine tk hsp B (by omega) (by omega) (by omega) fun v4 G0 _ _ B => ?_
      conv => whnf
      refine atD_of (by omega) (by simpa using by omega) fun d hd => ?_
      have hd : ∃ f, d = .int f ∧ 0 ≤ f ∧ f ≤ 99999 := by
        simp only [List.mem_cons, List.not_mem_nil, or_false] at hd
        rcases hd with rfl | rfl | rfl | rfl <;> exact ⟨_, rfl, by omega, by omega⟩
      obtain ⟨c, rfl, c0, c1⟩ := hd
      conv => whnf
      refine ⟨G', p, 0 + 1 + 1 + 1 + 1, c, rfl, B, by omega, rfl, c0, c1, fun ns G0 hd B => ?_⟩
      conv => whnf
      refine tk hsp B (by omega) (by omega) (by omega) fun v5 G0 _ _ B => ?_
      conv => whnf
      refine ⟨fun e => ?_, fun e => ?_⟩
      · conv => whnf
        have ec : cutD (ns.map D.int) none (some 5) = (ns.take 5).map D.int := by
          rw [cutD_take (by omega), List.map_take]; rfl
        rw [ec]
        refine lc_map (enc := D.int) (keep := fun _ => true) (f := fun n => .int (40 + n % 12)) (smallL (by rw [List.length_take]; omega)) trivial (fun _ _ R h => h) (fun n _ _ R h => ⟨by omega, h⟩) ?_
        rw [filter_yes]
        have hd2 : DOk ((ns.take 5).map fun n => 40 + n % 12) := by
          obtain ⟨d0, d1, d2⟩ := hd
          refine ⟨by rw [List.length_map, List.length_take]; omega, by rw [List.length_map, List.length_take]; omega, fun n hn => ?_⟩
          obtain ⟨x, _, rfl⟩ := List.mem_map.mp hn
          omega
        have em : (ns.take 5).map (fun n => D.int (40 + n % 12)) = ((ns.take 5).map fun n => 40 + n % 12).map D.int := by rw [List.map_map]; rfl
        rw [em]
        generalize (ns.take 5).map (fun n => 40 + n % 12) = ns at hd2 ⊢
        have hd := hd2
        conv => whnf
        refine tk hsp B (by omega) (by omega) (by omega) fun c G0 c0 c1 B => ?_
        have c1 : c ≤ 99999 := by omega
        obtain ⟨d0, d1, d2⟩ := hd
        have lw := ws_len c0 ns
        have lh := hs_len c0 ns
        have hne : ns ≠ [] := fun e => by rw [e] at d0; simp at d0
        conv => whnf
        refine ⟨ns, c, rfl, by omega, c0, by omega, rfl, ?_⟩
        conv => whnf
        refine ⟨ns, c, .inl rfl, d0, d1, d2, c0, c1, rfl, fun q hq => ?_⟩
        conv => whnf
        refine ⟨smallL (by simp), ?_⟩
        conv => whnf
        refine ⟨fun a => a = q, .tup (.cons (.ref rfl gupd_same (.same _)) (.cons (.same _) .nil)), fz_pair (by omega) (by omega), ?_⟩
        conv => whnf
        refine ⟨fun e => ft e, fun _ => ?_⟩
        conv => whnf
        refine ⟨fun _ => False, .same _, fz_ints (by omega), ?_⟩
        conv => whnf
        refine ⟨fun e => ft e, fun _ => ?_⟩
        conv => whnf
        refine ⟨ns, ws c ns, c, rfl, .inr ⟨q, rfl, gupd_same⟩, by omega, by omega, rfl, ?_⟩
        rw [far_empty c0]
        conv => whnf
        refine ⟨fun e => ft e, fun _ => ?_⟩
        conv => whnf
        refine ⟨mul_small (.inl (by omega)), ?_⟩
        conv => whnf
        refine ⟨K73.hs c ns, 2 * c + 1, rfl, by omega, rfl, hs_far c0 ns, ?_⟩
        conv => whnf
        refine ⟨fun e => ft e, fun _ => ?_⟩
        conv => whnf
        refine ⟨fun _ => ?_, fun _ => ?_⟩
        · conv => whnf
          refine ⟨ns, c, rfl, hne, by omega, d2, c0, by omega, rfl, by rw [List.length_map, List.length_map], ?_⟩
          conv => whnf
          refine ⟨fun e => ft e, fun _ => ?_⟩
          conv => whnf
          rw [lsOf_ref gupd_same]
          conv => whnf
          rw [gupd_same]
          conv => whnf
          refine ⟨smallLt (by rw [List.length_map]; omega), ?_⟩
          conv => whnf
          refine ⟨rfl, rfl, ?_⟩
          conv => whnf
          refine ⟨ns, c, .inr rfl, d0, d1, d2, c0, c1, rfl, fun q2 hq2 => ?_⟩
          obtain ⟨hq2a, hq2b⟩ := gupd_none hq2
          have hqp : q ≠ p := B.ne hq
          have hq2p : q2 ≠ p := B.ne (gupd_none hq2b).2
          obtain ⟨⟨s9, hs9, hk9⟩, _⟩ := B
          conv => whnf
          refine ⟨smallL (by simp), ?_⟩
          conv => whnf
          refine ⟨fun a => a = q2, .tup (.cons (.ref rfl gupd_same (.same _)) (.cons (.same _) .nil)), fz_pair (by omega) (by omega), ?_⟩
          conv => whnf
          refine ⟨fun e => ft e, fun _ => ?_⟩
          conv => whnf
          refine ⟨_, p, _, ns, rfl, ⟨⟨s9, gupd_at hq2p.symm (gupd_at hqp.symm (gupd_at hqp.symm hs9)), hk9⟩, fun _ _ => rfl⟩, by omega, rfl, ⟨d0, d1, d2⟩, fun G9 => ?_⟩
          conv => whnf
          refine ⟨fun e => ft e, fun _ => ?_⟩
          exact hN _ _ ⟨i + 1, by omega, fun j' hj' => hj j' (List.mem_cons_of_mem _ hj'), _, _, _, _, _, _, _, _, rfl⟩
        · conv => whnf
          refine ⟨fun e => ft e, fun _ => ?_⟩
          conv => whnf
          rw [lsOf_ref gupd_same]
          conv => whnf
          rw [gupd_same]
          conv => whnf
          refine ⟨smallLt (by rw [List.length_map]; omega), ?_⟩
          conv => whnf
          refine ⟨rfl, rfl, ?_⟩
          conv => whnf
          refine ⟨ns, c, .inr rfl, d0, d1, d2, c0, c1, rfl, fun q2 hq2 => ?_⟩
          obtain ⟨hq2a, hq2b⟩ := gupd_none hq2
          have hqp : q ≠ p := B.ne hq
          have hq2p : q2 ≠ p := B.ne (gupd_none hq2b).2
          obtain ⟨⟨s9, hs9, hk9⟩, _⟩ := B
          conv => whnf
          refine ⟨smallL (by simp), ?_⟩
          conv => whnf
          refine ⟨fun a => a = q2, .tup (.cons (.ref rfl gupd_same (.same _)) (.cons (.same _) .nil)), fz_pair (by omega) (by omega), ?_⟩
          conv => whnf
          refine ⟨fun e => ft e, fun _ => ?_⟩
          conv => whnf
          refine ⟨_, p, _, ns, rfl, ⟨⟨s9, gupd_at hq2p.symm (gupd_at hqp.symm (gupd_at hqp.symm hs9)), hk9⟩, fun _ _ => rfl⟩, by omega, rfl, ⟨d0, d1, d2⟩, fun G9 => ?_⟩
          conv => whnf
          refine ⟨fun e => ft e, fun _ => ?_⟩
          exact hN _ _ ⟨i + 1, by omega, fun j' hj' => hj j' (List.mem_cons_of_mem _ hj'), _, _, _, _, _, _, _, _, rfl⟩
      ·
        obtain ⟨d0, d1, d2⟩ := hd
        have lw := ws_len c0 ns
        have lh := hs_len c0 ns
        have hne : ns ≠ [] := fun e => by rw [e] at d0; simp at d0
        conv => whnf
        refine ⟨ns, c, rfl, by omega, c0, by omega, rfl, ?_⟩
        conv => whnf
        refine ⟨ns, c, .inl rfl, d0, d1, d2, c0, c1, rfl, fun q hq => ?_⟩
        conv => whnf
        refine ⟨smallL (by simp), ?_⟩
        conv => whnf
        refine ⟨fun a => a = q, .tup (.cons (.ref rfl gupd_same (.same _)) (.cons (.same _) .nil)), fz_pair (by omega) (by omega), ?_⟩
        conv => whnf
        refine ⟨fun e => ft e, fun _ => ?_⟩
        conv => whnf
        refine ⟨fun _ => False, .same _, fz_ints (by omega), ?_⟩
        conv => whnf
        refine ⟨fun e => ft e, fun _ => ?_⟩
        conv => whnf
        refine ⟨ns, ws c ns, c, rfl, .inr ⟨q, rfl, gupd_same⟩, by omega, by omega, rfl, ?_⟩
        rw [far_empty c0]
        conv => whnf
        refine ⟨fun e => ft e, fun _ => ?_⟩
        conv => whnf
        refine ⟨mul_small (.inl (by omega)), ?_⟩
        conv => whnf
        refine ⟨K73.hs c ns, 2 * c + 1, rfl, by omega, rfl, hs_far c0 ns, ?_⟩
        conv => whnf
        refine ⟨fun e => ft e, fun _ => ?_⟩
        conv => whnf
        refine ⟨fun _ => ?_, fun _ => ?_⟩
        · conv => whnf
          refine ⟨ns, c, rfl, hne, by omega, d2, c0, by omega, rfl, by rw [List.length_map, List.length_map], ?_⟩
          conv => whnf
          refine ⟨fun e => ft e, fun _ => ?_⟩
          conv => whnf
          rw [lsOf_ref gupd_same]
          conv => whnf
          rw [gupd_same]
          conv => whnf
          refine ⟨smallLt (by rw [List.length_map]; omega), ?_⟩
          conv => whnf
          refine ⟨rfl, rfl, ?_⟩
          conv => whnf
          refine ⟨ns, c, .inr rfl, d0, d1, d2, c0, c1, rfl, fun q2 hq2 => ?_⟩
          obtain ⟨hq2a, hq2b⟩ := gupd_none hq2
          have hqp : q ≠ p := B.ne hq
          have hq2p : q2 ≠ p := B.ne (gupd_none hq2b).2
          obtain ⟨⟨s9, hs9, hk9⟩, _⟩ := B
          conv => whnf
          refine ⟨smallL (by simp), ?_⟩
          conv => whnf
          refine ⟨fun a => a = q2, .tup (.cons (.ref rfl gupd_same (.same _)) (.cons (.same _) .nil)), fz_pair (by omega) (by omega), ?_⟩
          conv => whnf
          refine ⟨fun e => ft e, fun _ => ?_⟩
          conv => whnf
          refine ⟨_, p, _, ns, rfl, ⟨⟨s9, gupd_at hq2p.symm (gupd_at hqp.symm (gupd_at hqp.symm hs9)), hk9⟩, fun _ _ => rfl⟩, by omega, rfl, ⟨d0, d1, d2⟩, fun G9 => ?_⟩
          conv => whnf
          refine ⟨fun e => ft e, fun _ => ?_⟩
          exact hN _ _ ⟨i + 1, by omega, fun j' hj' => hj j' (List.mem_cons_of_mem _ hj'), _, _, _, _, _, _, _, _, rfl⟩
        · conv => whnf
          refine ⟨fun e => ft e, fun _ => ?_⟩
          conv => whnf
          rw [lsOf_ref gupd_same]
          conv => whnf
          rw [gupd_same]
          conv => whnf
          refine ⟨smallLt (by rw [List.length_map]; omega), ?_⟩
          conv => whnf
          refine ⟨rfl, rfl, ?_⟩
          conv => whnf
          refine ⟨ns, c, .inr rfl, d0, d1, d2, c0, c1, rfl, fun q2 hq2 => ?_⟩
          obtain ⟨hq2a, hq2b⟩ := gupd_none hq2
          have hqp : q ≠ p := B.ne hq
          have hq2p : q2 ≠ p := B.ne (gupd_none hq2b).2
          obtain ⟨⟨s9, hs9, hk9⟩, _⟩ := B
          conv => whnf
          refine ⟨smallL (by simp), ?_⟩
          conv => whnf
          refine ⟨fun a => a = q2, .tup (.cons (.ref rfl gupd_same (.same _)) (.cons (.same _) .nil)), fz_pair (by omega) (by omega), ?_⟩
          conv => whnf
          refine ⟨fun e => ft e, fun _ => ?_⟩
          conv => whnf
          refine ⟨_, p, _, ns, rfl, ⟨⟨s9, gupd_at hq2p.symm (gupd_at hqp.symm (gupd_at hqp.symm hs9)), hk9⟩, fun _ _ => rfl⟩, by omega, rfl, ⟨d0, d1, d2⟩, fun G9 => ?_⟩
          conv => whnf
          refine ⟨fun e => ft e, fun _ => ?_⟩
          exact hN _ _ ⟨i + 1, by omega, fun j' hj' => hj j' (List.mem_cons_of_mem _ hj'), _, _, _, _, _, _, _, _, rfl⟩
  exact key _ fun _ _ _ _ h => h
end K73
set_option Elab.async false
set_option linter.all false
set_option maxRecDepth 100000
set_option maxHeartbeats 4000000
namespace K73
open PySem PySem.Spec L2 DL
def topS (i : Nat) : Stmt := PySem.Challenge.pw_hintscribe_k73_whole_fewest_worths.main.body.getD i (.Pass ⟨0, 0, 0, 0⟩)
abbrev s_law_box : Stmt := topS 23
abbrev N_law_box : List Str := ["cell"]
abbrev P_law_box : List Str := ["cell"]
theorem sc_law_box : FnScope N_law_box P_law_box (defScope s_law_box) := ⟨rfl, rfl, rfl, by decide +kernel, rfl, by decide +kernel, by decide +kernel⟩
abbrev s_law_cell : Stmt := topS 22
abbrev N_law_cell : List Str := ["script", "k"]
abbrev P_law_cell : List Str := ["script", "k"]
theorem sc_law_cell : FnScope N_law_cell P_law_cell (defScope s_law_cell) := ⟨rfl, rfl, rfl, by decide +kernel, rfl, by decide +kernel, by decide +kernel⟩
abbrev s_law_take : Stmt := topS 24
abbrev N_law_take : List Str := ["box", "many", "digit", "one", "other"]
abbrev P_law_take : List Str := ["box", "many"]
theorem sc_law_take : FnScope N_law_take P_law_take (defScope s_law_take) := ⟨rfl, rfl, rfl, by decide +kernel, rfl, by decide +kernel, by decide +kernel⟩
abbrev s_law_distances : Stmt := topS 26
abbrev N_law_distances : List Str := ["box", "reach", "many", "found", "k", "last", "step", "spot"]
abbrev P_law_distances : List Str := ["box", "reach"]
theorem sc_law_distances : FnScope N_law_distances P_law_distances (defScope s_law_distances) := ⟨rfl, rfl, rfl, by decide +kernel, rfl, by decide +kernel, by decide +kernel⟩
abbrev s_law_sorted : Stmt := topS 27
abbrev N_law_sorted : List Str := ["numbers", "found", "number", "ahead", "one"]
abbrev P_law_sorted : List Str := ["numbers"]
theorem sc_law_sorted : FnScope N_law_sorted P_law_sorted (defScope s_law_sorted) := ⟨rfl, rfl, rfl, by decide +kernel, rfl, by decide +kernel, by decide +kernel⟩
abbrev s_law_due : Stmt := topS 28
abbrev N_law_due : List Str := ["distances", "reach", "worths", "apart", "group", "distance"]
abbrev P_law_due : List Str := ["distances", "reach"]
theorem sc_law_due : FnScope N_law_due P_law_due (defScope s_law_due) := ⟨rfl, rfl, rfl, by decide +kernel, rfl, by decide +kernel, by decide +kernel⟩
abbrev s_is_list : Stmt := topS 8
abbrev N_is_list : List Str := ["thing", "low", "high"]
abbrev P_is_list : List Str := ["thing", "low", "high"]
theorem sc_is_list : FnScope N_is_list P_is_list (defScope s_is_list) := ⟨rfl, rfl, rfl, by decide +kernel, rfl, by decide +kernel, by decide +kernel⟩
abbrev s_is_plain : Stmt := topS 5
abbrev N_is_plain : List Str := ["thing"]
abbrev P_is_plain : List Str := ["thing"]
theorem sc_is_plain : FnScope N_is_plain P_is_plain (defScope s_is_plain) := ⟨rfl, rfl, rfl, by decide +kernel, rfl, by decide +kernel, by decide +kernel⟩
abbrev s_is_whole : Stmt := topS 6
abbrev N_is_whole : List Str := ["thing", "low", "high"]
abbrev P_is_whole : List Str := ["thing", "low", "high"]
theorem sc_is_whole : FnScope N_is_whole P_is_whole (defScope s_is_whole) := ⟨rfl, rfl, rfl, by decide +kernel, rfl, by decide +kernel, by decide +kernel⟩
abbrev s_need_distance : Stmt := topS 13
abbrev N_need_distance : List Str := ["number"]
abbrev P_need_distance : List Str := ["number"]
theorem sc_need_distance : FnScope N_need_distance P_need_distance (defScope s_need_distance) := ⟨rfl, rfl, rfl, by decide +kernel, rfl, by decide +kernel, by decide +kernel⟩
abbrev s_need_distances : Stmt := topS 14
abbrev N_need_distances : List Str := ["distances", "distance"]
abbrev P_need_distances : List Str := ["distances"]
theorem sc_need_distances : FnScope N_need_distances P_need_distances (defScope s_need_distances) := ⟨rfl, rfl, rfl, by decide +kernel, rfl, by decide +kernel, by decide +kernel⟩
abbrev s_groups_of : Stmt := topS 16
abbrev N_groups_of : List Str := ["distances", "reach", "found", "distance"]
abbrev P_groups_of : List Str := ["distances", "reach"]
theorem sc_groups_of : FnScope N_groups_of P_groups_of (defScope s_groups_of) := ⟨rfl, rfl, rfl, by decide +kernel, rfl, by decide +kernel, by decide +kernel⟩
abbrev s_covering : Stmt := topS 17
abbrev N_covering : List Str := ["distances", "reach", "groups", "group"]
abbrev P_covering : List Str := ["distances", "reach"]
theorem sc_covering : FnScope N_covering P_covering (defScope s_covering) := ⟨rfl, rfl, rfl, by decide +kernel, rfl, by decide +kernel, by decide +kernel⟩
abbrev s_fewest_worths : Stmt := topS 18
abbrev N_fewest_worths : List Str := ["distances", "reach"]
abbrev P_fewest_worths : List Str := ["distances", "reach"]
theorem sc_fewest_worths : FnScope N_fewest_worths P_fewest_worths (defScope s_fewest_worths) := ⟨rfl, rfl, rfl, by decide +kernel, rfl, by decide +kernel, by decide +kernel⟩
abbrev s_law_same : Stmt := topS 25
abbrev N_law_same : List Str := ["given", "due", "k"]
abbrev P_law_same : List Str := ["given", "due"]
theorem sc_law_same : FnScope N_law_same P_law_same (defScope s_law_same) := ⟨rfl, rfl, rfl, by decide +kernel, rfl, by decide +kernel, by decide +kernel⟩
abbrev s_law_reached : Stmt := topS 29
abbrev N_law_reached : List Str := ["distances", "worths", "reach", "one", "worth"]
abbrev P_law_reached : List Str := ["distances", "worths", "reach"]
theorem sc_law_reached : FnScope N_law_reached P_law_reached (defScope s_law_reached) := ⟨rfl, rfl, rfl, by decide +kernel, rfl, by decide +kernel, by decide +kernel⟩
abbrev s_law_far_apart : Stmt := topS 32
abbrev N_law_far_apart : List Str := ["apart", "gap", "k"]
abbrev P_law_far_apart : List Str := ["apart", "gap"]
theorem sc_law_far_apart : FnScope N_law_far_apart P_law_far_apart (defScope s_law_far_apart) := ⟨rfl, rfl, rfl, by decide +kernel, rfl, by decide +kernel, by decide +kernel⟩
abbrev s_law_lists : Stmt := topS 30
abbrev N_law_lists : List Str := ["low", "high", "many", "found", "turn", "longer", "row", "begin", "number"]
abbrev P_law_lists : List Str := ["low", "high", "many"]
theorem sc_law_lists : FnScope N_law_lists P_law_lists (defScope s_law_lists) := ⟨rfl, rfl, rfl, by decide +kernel, rfl, by decide +kernel, by decide +kernel⟩
abbrev s_law_none_fewer : Stmt := topS 31
abbrev N_law_none_fewer : List Str := ["distances", "reach", "many", "low", "high", "row"]
abbrev P_law_none_fewer : List Str := ["distances", "reach", "many"]
theorem sc_law_none_fewer : FnScope N_law_none_fewer P_law_none_fewer (defScope s_law_none_fewer) := ⟨rfl, rfl, rfl, by decide +kernel, rfl, by decide +kernel, by decide +kernel⟩
abbrev s_need_most : Stmt := topS 15
abbrev N_need_most : List Str := ["many"]
abbrev P_need_most : List Str := ["many"]
theorem sc_need_most : FnScope N_need_most P_need_most (defScope s_need_most) := ⟨rfl, rfl, rfl, by decide +kernel, rfl, by decide +kernel, by decide +kernel⟩
abbrev s_reach_for : Stmt := topS 19
abbrev N_reach_for : List Str := ["distances", "many", "low", "high", "middle"]
abbrev P_reach_for : List Str := ["distances", "many"]
theorem sc_reach_for : FnScope N_reach_for P_reach_for (defScope s_reach_for) := ⟨rfl, rfl, rfl, by decide +kernel, rfl, by decide +kernel, by decide +kernel⟩
abbrev s_least_reach : Stmt := topS 20
abbrev N_least_reach : List Str := ["distances", "many", "reach", "worths", "firsts", "apart"]
abbrev P_least_reach : List Str := ["distances", "many"]
theorem sc_least_reach : FnScope N_least_reach P_least_reach (defScope s_least_reach) := ⟨rfl, rfl, rfl, by decide +kernel, rfl, by decide +kernel, by decide +kernel⟩
abbrev s_law_reach_right : Stmt := topS 33
abbrev N_law_reach_right : List Str := ["box", "distances", "many", "told", "reach", "due"]
abbrev P_law_reach_right : List Str := ["box", "distances"]
theorem sc_law_reach_right : FnScope N_law_reach_right P_law_reach_right (defScope s_law_reach_right) := ⟨rfl, rfl, rfl, by decide +kernel, rfl, by decide +kernel, by decide +kernel⟩
abbrev s_law : Stmt := topS 34
abbrev N_law : List Str := ["script", "k", "box", "reach", "distances", "handed", "worths", "apart", "told", "one"]
abbrev P_law : List Str := ["script"]
theorem sc_law : FnScope N_law P_law (defScope s_law) := ⟨rfl, rfl, rfl, by decide +kernel, rfl, by decide +kernel, by decide +kernel⟩
/-- what the top has left -/
structure Tx (K : PySem.W.Frag) (mg : Str → Option Value) where
  law_box : FnT K mg "_law_box" s_law_box P_law_box
  law_cell : FnT K mg "_law_cell" s_law_cell P_law_cell
  law_take : FnT K mg "_law_take" s_law_take P_law_take
  law_distances : FnT K mg "_law_distances" s_law_distances P_law_distances
  law_sorted : FnT K mg "_law_sorted" s_law_sorted P_law_sorted
  law_due : FnT K mg "_law_due" s_law_due P_law_due
  is_list : FnT K mg "is_list" s_is_list P_is_list
  is_plain : FnT K mg "is_plain" s_is_plain P_is_plain
  is_whole : FnT K mg "is_whole" s_is_whole P_is_whole
  need_distance : FnT K mg "need_distance" s_need_distance P_need_distance
  need_distances : FnT K mg "need_distances" s_need_distances P_need_distances
  groups_of : FnT K mg "groups_of" s_groups_of P_groups_of
  covering : FnT K mg "covering" s_covering P_covering
  fewest_worths : FnT K mg "fewest_worths" s_fewest_worths P_fewest_worths
  fewest_worths_kb0 : KBn K fewest_worths.fd P_fewest_worths 0 ["reach", "distances"] (kperm [1, 0]) (kperm [1, 0])
  law_same : FnT K mg "_law_same" s_law_same P_law_same
  law_reached : FnT K mg "_law_reached" s_law_reached P_law_reached
  law_far_apart : FnT K mg "_law_far_apart" s_law_far_apart P_law_far_apart
  law_lists : FnT K mg "_law_lists" s_law_lists P_law_lists
  law_none_fewer : FnT K mg "_law_none_fewer" s_law_none_fewer P_law_none_fewer
  need_most : FnT K mg "need_most" s_need_most P_need_most
  reach_for : FnT K mg "reach_for" s_reach_for P_reach_for
  least_reach : FnT K mg "least_reach" s_least_reach P_least_reach
  least_reach_kb0 : KBn K least_reach.fd P_least_reach 0 ["many", "distances"] (kperm [1, 0]) (kperm [1, 0])
  law_reach_right : FnT K mg "_law_reach_right" s_law_reach_right P_law_reach_right
  n_abs : mg "abs" = none
  n_bool : mg "bool" = none
  n_int : mg "int" = none
  n_isinstance : mg "isinstance" = none
  n_len : mg "len" = none
  n_list : mg "list" = none
  n_max : mg "max" = none
  n_min : mg "min" = none
  n_range : mg "range" = none
  n_sorted : mg "sorted" = none
  n_str : mg "str" = none
  n_tuple : mg "tuple" = none
  t_MOST_DISTANCES : Tok
  c_MOST_DISTANCES : mg "MOST_DISTANCES" = some (.int 100 t_MOST_DISTANCES)
  t_MOST_UNITS : Tok
  c_MOST_UNITS : mg "MOST_UNITS" = some (.int 99999 t_MOST_UNITS)
  t_MOST_WORTHS : Tok
  c_MOST_WORTHS : mg "MOST_WORTHS" = some (.int 12 t_MOST_WORTHS)
section
variable {P : Program} {w : World} {K : PySem.W.Frag} {mg : Str → Option Value} {base : Heap}
theorem ok_law_box (T : Tx K mg) : FnOk P w K mg base CX0 1 T.law_box.f T.law_box.fd P_law_box (cSp K sp_law_box) :=
  DFun.ok1 T.law_box.F sc_law_box rfl rfl (k := 0) (t := t_law_box) (fun cdv A outer s H E hr => 
    (dss_one (ds_ret (de_lstM (da_cons (de_callB (dcall_max2 rfl) (by rfl) T.n_max (by decide +kernel) (da_cons de_int (da_cons (de_op dop_sub (de_var (pv 0)) (de_op dop_pow de_int de_int)) da_nil))) (da_cons (de_op dop_mod (de_callTy dcall_int (by rfl) T.n_int (by decide +kernel) (da_cons (de_var (pv 0)) da_nil)) de_int) (da_cons de_int da_nil))))))) rd_law_box
theorem ok_law_cell (T : Tx K mg) : FnOk P w K mg base CX0 1 T.law_cell.f T.law_cell.fd P_law_cell (cSp K sp_law_cell) :=
  DFun.ok2 T.law_cell.F sc_law_cell rfl rfl (k := 0) (t := t_law_cell) (fun cdv A outer s H E hr => 
    (dss_cons (ds_if (dt_cmp dop_lt (de_var (pv 1)) (de_callB dcall_len (by rfl) T.n_len (by decide +kernel) (da_cons (de_var (pv 0)) da_nil)) (nomark _)) (dss_one (ds_ret (de_ix dix_seq (de_var (pv 0)) (de_var (pv 1)) (fun _ _ => rfl)))) dss_nil)
      (dss_one (ds_ret (de_op dop_add (de_op dop_mul de_int (de_var (pv 1))) de_int))))) rd_law_cell
theorem ok_law_take (T : Tx K mg) : FnOk P w K mg base CX0 1 T.law_take.f T.law_take.fd P_law_take (cSp K sp_law_take) :=
  DFun.ok2 T.law_take.F sc_law_take rfl rfl (k := 0) (t := t_law_take) (fun cdv A outer s H E hr => 
    (dss_cons (ds_if (dt_cmp dop_gt (de_ix dix_seq (de_var (pv 0)) de_int (fun _ _ => rfl)) de_int (nomark _)) (dss_cons (ds_set (i := 2) sc_law_take.nd rfl (by first | exact Or.inl rfl | exact Or.inr rfl) (de_op dop_mod (de_callTy dcall_int (by rfl) T.n_int (by decide +kernel) (da_cons (de_ix dix_seq (de_var (pv 0)) de_int (fun _ _ => rfl)) da_nil)) (de_var (pv 1))))
      (dss_cons (ds_sub (de_op dop_fdiv (de_ix dix_seq (de_var (pv 0)) de_int (fun _ _ => rfl)) (de_var (pv 1))) (de_var (pv 0)) de_int)
      (dss_one (ds_ret (de_var (pv 2)))))) dss_nil)
      (dss_cons (ds_sub (de_op dop_add (de_ix dix_seq (de_var (pv 0)) de_int (fun _ _ => rfl)) de_int) (de_var (pv 0)) de_int)
      (dss_cons (ds_set (i := 3) sc_law_take.nd rfl (by first | exact Or.inl rfl | exact Or.inr rfl) (de_op dop_mod (de_callTy dcall_int (by rfl) T.n_int (by decide +kernel) (da_cons (de_op dop_pow (de_op dop_add (de_op dop_add (de_ix dix_seq (de_var (pv 0)) de_int (fun _ _ => rfl)) (de_op dop_mul de_int (de_ix dix_seq (de_var (pv 0)) de_int (fun _ _ => rfl)))) de_int) de_int) da_nil)) de_int))
      (dss_cons (ds_set (i := 4) sc_law_take.nd rfl (by first | exact Or.inl rfl | exact Or.inr rfl) (de_op dop_mod (de_callTy dcall_int (by rfl) T.n_int (by decide +kernel) (da_cons (de_op dop_pow (de_op dop_add (de_op dop_mul (de_ix dix_seq (de_var (pv 0)) de_int (fun _ _ => rfl)) (de_ix dix_seq (de_var (pv 0)) de_int (fun _ _ => rfl))) de_int) de_int) da_nil)) de_int))
      (dss_one (ds_ret (de_op dop_mod (de_op dop_fdiv (de_op dop_add (de_op dop_mul (de_var (pv 3)) de_int) (de_var (pv 4))) de_int) (de_var (pv 1)))))))))) rd_law_take
theorem ok_law_distances (T : Tx K mg) : FnOk P w K mg base CX0 2 T.law_distances.f T.law_distances.fd P_law_distances (cSp K sp_law_distances) :=
  DFun.ok2 T.law_distances.F sc_law_distances rfl rfl (k := 1) (t := t_law_distances K sp_law_take) (fun cdv A outer s H E hr => 
    (dss_cons (ds_set (i := 2) sc_law_distances.nd rfl (by first | exact Or.inl rfl | exact Or.inr rfl) (de_ix dix_seq (de_lst (da_cons (de_op dop_add de_int (de_call (ok_law_take T) (hr.mono (by decide)) rfl T.law_take.m T.law_take.F.kp T.law_take.b .nil (fun _ => .nil) pass0 (da_cons (de_var (pv 0)) (da_cons de_int da_nil)))) (da_cons (de_op dop_add de_int (de_call (ok_law_take T) (hr.mono (by decide)) rfl T.law_take.m T.law_take.F.kp T.law_take.b .nil (fun _ => .nil) pass0 (da_cons (de_var (pv 0)) (da_cons de_int da_nil)))) da_nil))) (de_callTy dcall_int (by rfl) T.n_int (by decide +kernel) (da_cons (de_cmp (dop_eqQ hr.units) (de_call (ok_law_take T) (hr.mono (by decide)) rfl T.law_take.m T.law_take.F.kp T.law_take.b .nil (fun _ => .nil) pass0 (da_cons (de_var (pv 0)) (da_cons de_int da_nil))) de_int (nomark _)) da_nil)) (fun _ _ => rfl)))
      (dss_cons (ds_set (i := 3) sc_law_distances.nd rfl (by first | exact Or.inl rfl | exact Or.inr rfl) (de_lstM (da_cons (de_ix dix_seq (de_lst (da_cons (de_call (ok_law_take T) (hr.mono (by decide)) rfl T.law_take.m T.law_take.F.kp T.law_take.b .nil (fun _ => .nil) pass0 (da_cons (de_var (pv 0)) (da_cons de_int da_nil))) (da_cons (de_call (ok_law_take T) (hr.mono (by decide)) rfl T.law_take.m T.law_take.F.kp T.law_take.b .nil (fun _ => .nil) pass0 (da_cons (de_var (pv 0)) (da_cons de_int da_nil))) (da_cons de_int (da_cons de_int da_nil))))) (de_call (ok_law_take T) (hr.mono (by decide)) rfl T.law_take.m T.law_take.F.kp T.law_take.b .nil (fun _ => .nil) pass0 (da_cons (de_var (pv 0)) (da_cons de_int da_nil))) (fun _ _ => rfl)) da_nil)))
      (dss_cons (ds_for (g := (.nm 4)) PassesOwn.never rfl (di_range1 (by rfl) T.n_range (de_op dop_sub (de_var (pv 2)) de_int)) (pg_nm (pg_name (i := 4) sc_law_distances.nd rfl (by first | exact Or.inl rfl | exact Or.inr rfl))) (dss_cons (ds_set (i := 5) sc_law_distances.nd rfl (by first | exact Or.inl rfl | exact Or.inr rfl) (de_ix dix_seq (de_var (pv 3)) (de_call (ok_law_take T) (hr.mono (by decide)) rfl T.law_take.m T.law_take.F.kp T.law_take.b .nil (fun _ => .nil) pass0 (da_cons (de_var (pv 0)) (da_cons (de_callB dcall_len (by rfl) T.n_len (by decide +kernel) (da_cons (de_var (pv 3)) da_nil)) da_nil))) (fun _ _ => rfl)))
      (dss_cons (ds_set (i := 6) sc_law_distances.nd rfl (by first | exact Or.inl rfl | exact Or.inr rfl) (de_ix dix_seq (de_lst (da_cons (de_op dop_mul de_int (de_var (pv 1))) (da_cons (de_op dop_add (de_op dop_mul de_int (de_var (pv 1))) de_int) (da_cons de_int (da_cons (de_call (ok_law_take T) (hr.mono (by decide)) rfl T.law_take.m T.law_take.F.kp T.law_take.b .nil (fun _ => .nil) pass0 (da_cons (de_var (pv 0)) (da_cons de_int da_nil))) (da_cons (de_call (ok_law_take T) (hr.mono (by decide)) rfl T.law_take.m T.law_take.F.kp T.law_take.b .nil (fun _ => .nil) pass0 (da_cons (de_var (pv 0)) (da_cons de_int da_nil))) da_nil)))))) (de_call (ok_law_take T) (hr.mono (by decide)) rfl T.law_take.m T.law_take.F.kp T.law_take.b .nil (fun _ => .nil) pass0 (da_cons (de_var (pv 0)) (da_cons de_int da_nil))) (fun _ _ => rfl)))
      (dss_cons (ds_set (i := 7) sc_law_distances.nd rfl (by first | exact Or.inl rfl | exact Or.inr rfl) (de_ifExp (dt_cmp (dop_eqQ hr.units) (de_call (ok_law_take T) (hr.mono (by decide)) rfl T.law_take.m T.law_take.F.kp T.law_take.b .nil (fun _ => .nil) pass0 (da_cons (de_var (pv 0)) (da_cons de_int da_nil))) de_int (nomark _)) (de_op dop_add (de_var (pv 5)) (de_var (pv 6))) (de_op dop_sub (de_var (pv 5)) (de_var (pv 6)))))
      (dss_one (ds_expr (de_mtL PySem.F.slot_list_append PySem.F.type_list_append dmt_append (de_var (pv 3)) (da_cons (de_ifExp (dt_chain dop_le dop_le de_int (de_var (pv 7)) de_int) (de_var (pv 7)) (de_call (ok_law_take T) (hr.mono (by decide)) rfl T.law_take.m T.law_take.F.kp T.law_take.b .nil (fun _ => .nil) pass0 (da_cons (de_var (pv 0)) (da_cons de_int da_nil)))) da_nil))))))))
      (dss_one (ds_ghost (ds_ret (de_var (pv 3))))))))) rd_law_distances
theorem ok_law_sorted (T : Tx K mg) : FnOk P w K mg base CX0 1 T.law_sorted.f T.law_sorted.fd P_law_sorted (cSp K sp_law_sorted) :=
  DFun.ok1 T.law_sorted.F sc_law_sorted rfl rfl (k := 0) (t := t_law_sorted) (fun cdv A outer s H E hr => 
    (dss_cons (ds_set (i := 1) sc_law_sorted.nd rfl (by first | exact Or.inl rfl | exact Or.inr rfl) (de_lst da_nil))
      (dss_cons (ds_for (g := (.nm 2)) PassesOwn.never rfl (di_seq (de_var (pv 0))) (pg_nm (pg_name (i := 2) sc_law_sorted.nd rfl (by first | exact Or.inl rfl | exact Or.inr rfl))) (dss_cons (ds_setLc false (i := 3) (own := [("one", 4)]) (g := (.nm 4)) rfl sc_law_sorted.nd rfl rfl (sw_true rfl rfl rfl (by decide +kernel)) (di_seq (de_var (pv 1))) (blkOk_by (N := N_law_sorted) (sc := defScope s_law_sorted) (own := [("one", 4)]) (by decide +kernel)) (fun _ _ _ _ _ => (pg_nm (pg_name (i := 4) sc_law_sorted.nd rfl (by first | exact Or.inl rfl | exact Or.inr rfl)))) (fun _ _ _ _ _ => (dts_one (dt_cmp dop_le (de_var (pv 4)) (de_var (pv 2)) (nomark _)))) (fun _ _ _ _ _ => (de_var (pv 4))) (by decide))
      (dss_one (ds_set (i := 1) sc_law_sorted.nd rfl (by first | exact Or.inl rfl | exact Or.inr rfl) (de_op dop_add (de_op dop_add (de_var (pv 3)) (de_lst (da_cons (de_var (pv 2)) da_nil))) (de_lc false (own := [("one", 4)]) (g := (.nm 4)) rfl sc_law_sorted.nd (di_seq (de_var (pv 1))) (blkOk_by (N := N_law_sorted) (sc := defScope s_law_sorted) (own := [("one", 4)]) (by decide +kernel)) (fun _ _ _ _ _ => (pg_nm (pg_name (i := 4) sc_law_sorted.nd rfl (by first | exact Or.inl rfl | exact Or.inr rfl)))) (fun _ _ _ _ _ => (dts_one (dt_cmp dop_gt (de_var (pv 4)) (de_var (pv 2)) (nomark _)))) (fun _ _ _ _ _ => (de_var (pv 4))) (by decide)))))))
      (dss_one (ds_ret (de_var (pv 1))))))) rd_law_sorted
theorem ok_law_due (T : Tx K mg) : FnOk P w K mg base CX0 2 T.law_due.f T.law_due.fd P_law_due (cSp K sp_law_due) :=
  DFun.ok2 T.law_due.F sc_law_due rfl rfl (k := 1) (t := t_law_due K sp_law_sorted) (fun cdv A outer s H E hr => 
    (dss_cons (ds_par (i := 2) (j := 3) rfl sc_law_due.nd rfl rfl (by decide) rfl rfl (da_cons (de_lstM da_nil) (da_cons (de_lstM da_nil) da_nil)) (by rfl))
      (dss_cons (ds_set (i := 4) sc_law_due.nd rfl (by first | exact Or.inl rfl | exact Or.inr rfl) (de_lstM da_nil))
      (dss_cons (ds_for (g := (.nm 5)) PassesOwn.never rfl (di_seq (de_op dop_add (de_call (ok_law_sorted T) (hr.mono (by decide)) rfl T.law_sorted.m T.law_sorted.F.kp T.law_sorted.b .nil (fun _ => .nil) pass0 (da_cons (de_var (pv 0)) da_nil)) (de_lst (da_cons de_non da_nil)))) (pg_nm (pg_name (i := 5) sc_law_due.nd rfl (by first | exact Or.inl rfl | exact Or.inr rfl))) (dss_cons (ds_if (dt_w (dw_and (dt_cmp (dop_neQ hr.units) (de_var (pv 4)) (de_lst da_nil) (nomark _)) (dw_and1 (dt_w (dw_or (dt_cmp dop_is (de_var (pv 5)) de_non (nomark _)) (dw_or1 (dt_cmp dop_gt (de_var (pv 5)) (de_op dop_add (de_ix dix_seq (de_var (pv 4)) de_int (fun _ _ => rfl)) (de_op dop_mul de_int (de_var (pv 1)))) (nomark _)))))))) (dss_cons (ds_expr (de_mtL PySem.F.slot_list_append PySem.F.type_list_append dmt_append (de_var (pv 2)) (da_cons (de_op dop_fdiv (de_op dop_add (de_ix dix_seq (de_var (pv 4)) de_int (fun _ _ => rfl)) (de_ix dix_seq (de_var (pv 4)) (de_un dun_neg de_int) (fun _ _ => rfl))) de_int) da_nil)))
      (dss_cons (ds_expr (de_mtL PySem.F.slot_list_append PySem.F.type_list_append dmt_append (de_var (pv 3)) (da_cons (de_ix dix_seq (de_var (pv 4)) de_int (fun _ _ => rfl)) da_nil)))
      (dss_one (ds_set (i := 4) sc_law_due.nd rfl (by first | exact Or.inl rfl | exact Or.inr rfl) (de_lstM da_nil))))) dss_nil)
      (dss_one (ds_expr (de_mtL PySem.F.slot_list_append PySem.F.type_list_append dmt_append (de_var (pv 4)) (da_cons (de_var (pv 5)) da_nil))))))
      (dss_one (ds_ghost (ds_ret (de_tup (da_cons (de_var (pv 2)) (da_cons (de_var (pv 3)) da_nil)))))))))) rd_law_due
theorem ok_is_list (T : Tx K mg) : FnOk P w K mg base CX0 1 T.is_list.f T.is_list.fd P_is_list (cSp K sp_is_list) :=
  DFun.ok3 T.is_list.F sc_is_list rfl rfl (k := 0) (t := t_is_list) (fun cdv A outer s H E hr => 
    (dss_one (ds_ret (de_and (de_isiT (cs := [.lst, .tup]) (de_var (pv 0)) (pa_tys (pa_tyc (c := .lst) (pe_bltn (v := .ty "list") (by rfl) T.n_list (by decide +kernel) rfl) (pa_tyc (c := .tup) (pe_bltn (v := .ty "tuple") (by rfl) T.n_tuple (by decide +kernel) rfl) pa_ty0)) (by decide)) (by rfl) T.n_isinstance) (de_one (de_chain dop_le dop_le (de_var (pv 1)) (de_callB dcall_len (by rfl) T.n_len (by decide +kernel) (da_cons (de_var (pv 0)) da_nil)) (de_var (pv 2)))))))) rd_is_list
theorem ok_is_plain (T : Tx K mg) : FnOk P w K mg base CX0 1 T.is_plain.f T.is_plain.fd P_is_plain (cSp K sp_is_plain) :=
  DFun.ok1 T.is_plain.F sc_is_plain rfl rfl (k := 0) (t := t_is_plain) (fun cdv A outer s H E hr => 
    (dss_one (ds_ret (de_and (de_callB dcall_isi (by rfl) T.n_isinstance (by decide +kernel) (da_cons (de_var (pv 0)) (da_cons (de_c (pe_bltn (v := .ty "int") (by rfl) T.n_int (by decide +kernel) rfl) fun _ => .ty .int) da_nil))) (de_one (de_not (de_callB dcall_isi (by rfl) T.n_isinstance (by decide +kernel) (da_cons (de_var (pv 0)) (da_cons (de_c (pe_bltn (v := .ty "bool") (by rfl) T.n_bool (by decide +kernel) rfl) fun _ => .ty .bool) da_nil))))))))) rd_is_plain
theorem ok_is_whole (T : Tx K mg) : FnOk P w K mg base CX0 2 T.is_whole.f T.is_whole.fd P_is_whole (cSp K sp_is_whole) :=
  DFun.ok3 T.is_whole.F sc_is_whole rfl rfl (k := 1) (t := t_is_whole sp_is_plain) (fun cdv A outer s H E hr => 
    (dss_one (ds_ret (de_and (de_call (ok_is_plain T) (hr.mono (by decide)) rfl T.is_plain.m T.is_plain.F.kp T.is_plain.b .nil (fun _ => .nil) pass0 (da_cons (de_var (pv 0)) da_nil)) (de_one (de_chain dop_le dop_le (de_var (pv 1)) (de_var (pv 0)) (de_var (pv 2)))))))) rd_is_whole
theorem ok_need_distance (T : Tx K mg) : FnOk P w K mg base CX0 3 T.need_distance.f T.need_distance.fd P_need_distance (cSp K sp_need_distance) :=
  DFun.ok1 T.need_distance.F sc_need_distance rfl rfl (k := 2) (t := t_need_distance sp_is_whole) (fun cdv A outer s H E hr => 
    (dss_one (ds_if (dt_not (dt_truth (de_call (ok_is_whole T) (hr.mono (by decide)) rfl T.is_whole.m T.is_whole.F.kp T.is_whole.b .nil (fun _ => .nil) pass0 (da_cons (de_var (pv 0)) (da_cons de_int (da_cons (de_c (pe_glob (v := .int 99999) rfl T.c_MOST_UNITS ⟨_, rfl⟩) fun _ => .int _) da_nil)))))) (dss_one ds_never) dss_nil))) rd_need_distance
theorem ok_need_distances (T : Tx K mg) : FnOk P w K mg base CX0 4 T.need_distances.f T.need_distances.fd P_need_distances (cSp K sp_need_distances) :=
  DFun.ok1 T.need_distances.F sc_need_distances rfl rfl (k := 3) (t := t_need_distances sp_is_list sp_need_distance) (fun cdv A outer s H E hr => 
    (dss_cons (ds_if (dt_not (dt_truth (de_call (ok_is_list T) (hr.mono (by decide)) rfl T.is_list.m T.is_list.F.kp T.is_list.b .nil (fun _ => .nil) pass0 (da_cons (de_var (pv 0)) (da_cons de_int (da_cons (de_c (pe_glob (v := .int 100) rfl T.c_MOST_DISTANCES ⟨_, rfl⟩) fun _ => .int _) da_nil)))))) (dss_one ds_never) dss_nil)
      (dss_one (ds_for (g := (.nm 1)) PassesOwn.never rfl (di_seq (de_var (pv 0))) (pg_nm (pg_name (i := 1) sc_need_distances.nd rfl (by first | exact Or.inl rfl | exact Or.inr rfl))) (dss_one (ds_expr (de_call (ok_need_distance T) (hr.mono (by decide)) rfl T.need_distance.m T.need_distance.F.kp T.need_distance.b .nil (fun _ => .nil) pass0 (da_cons (de_var (pv 1)) da_nil)))))))) rd_need_distances
theorem ok_groups_of (T : Tx K mg) : FnOk P w K mg base CX0 1 T.groups_of.f T.groups_of.fd P_groups_of (cSp K sp_groups_of) :=
  DFun.ok2 T.groups_of.F sc_groups_of rfl rfl (k := 0) (t := t_groups_of K) (fun cdv A outer s H E hr => 
    (dss_cons (ds_set (i := 2) sc_groups_of.nd rfl (by first | exact Or.inl rfl | exact Or.inr rfl) (de_lstM da_nil))
      (dss_cons (ds_for (g := (.nm 3)) PassesOwn.never rfl (di_seq (de_callB (dcall_sortedQ false) (by rfl) T.n_sorted (by decide +kernel) (da_cons (de_var (pv 0)) da_nil))) (pg_nm (pg_name (i := 3) sc_groups_of.nd rfl (by first | exact Or.inl rfl | exact Or.inr rfl))) (dss_one (ds_if (dt_w (dw_and (dt_cmp (dop_neQ hr.units) (de_var (pv 2)) (de_lst da_nil) (nomark _)) (dw_and1 (dt_cmp dop_le (de_op dop_sub (de_var (pv 3)) (de_ix dix_seq (de_ix dix_seq (de_var (pv 2)) (de_un dun_neg de_int) (fun _ _ => rfl)) de_int (fun _ _ => rfl))) (de_op dop_mul de_int (de_var (pv 1))) (nomark _))))) (dss_one (ds_expr (de_mtL PySem.F.slot_list_append PySem.F.type_list_append dmt_append (de_ix dix_seq (de_var (pv 2)) (de_un dun_neg de_int) (fun _ _ => rfl)) (da_cons (de_var (pv 3)) da_nil)))) (dss_one (ds_expr (de_mtL PySem.F.slot_list_append PySem.F.type_list_append dmt_append (de_var (pv 2)) (da_cons (de_lstM (da_cons (de_var (pv 3)) da_nil)) da_nil)))))))
      (dss_one (ds_ghost (ds_ret (de_var (pv 2)))))))) rd_groups_of
theorem ok_covering (T : Tx K mg) : FnOk P w K mg base CX0 2 T.covering.f T.covering.fd P_covering (cSp K sp_covering) :=
  DFun.ok2 T.covering.F sc_covering rfl rfl (k := 1) (t := t_covering sp_groups_of) (fun cdv A outer s H E hr => 
    (dss_cons (ds_set (i := 2) sc_covering.nd rfl (by first | exact Or.inl rfl | exact Or.inr rfl) (de_call (ok_groups_of T) (hr.mono (by decide)) rfl T.groups_of.m T.groups_of.F.kp T.groups_of.b .nil (fun _ => .nil) pass0 (da_cons (de_var (pv 0)) (da_cons (de_var (pv 1)) da_nil))))
      (dss_one (ds_ret (de_tup (da_cons (de_lc true (own := [("group", 3)]) (g := (.nm 3)) rfl sc_covering.nd (di_seq (de_var (pv 2))) (blkOk_by (N := N_covering) (sc := defScope s_covering) (own := [("group", 3)]) (by decide +kernel)) (fun _ _ _ _ _ => (pg_nm (pg_name (i := 3) sc_covering.nd rfl (by first | exact Or.inl rfl | exact Or.inr rfl)))) (fun _ _ _ _ _ => dts_nil) (fun _ _ _ _ _ => (de_op dop_fdiv (de_op dop_add (de_ix dix_seq (de_var (pv 3)) de_int (fun _ _ => rfl)) (de_ix dix_seq (de_var (pv 3)) (de_un dun_neg de_int) (fun _ _ => rfl))) de_int)) (by decide)) (da_cons (de_lc false (own := [("group", 3)]) (g := (.nm 3)) rfl sc_covering.nd (di_seq (de_var (pv 2))) (blkOk_by (N := N_covering) (sc := defScope s_covering) (own := [("group", 3)]) (by decide +kernel)) (fun _ _ _ _ _ => (pg_nm (pg_name (i := 3) sc_covering.nd rfl (by first | exact Or.inl rfl | exact Or.inr rfl)))) (fun _ _ _ _ _ => dts_nil) (fun _ _ _ _ _ => (de_ix dix_seq (de_var (pv 3)) de_int (fun _ _ => rfl))) (by decide)) da_nil))))))) rd_covering
theorem ok_fewest_worths (T : Tx K mg) : FnOk P w K mg base CX0 5 T.fewest_worths.f T.fewest_worths.fd P_fewest_worths (cSp K sp_fewest_worths) :=
  DFun.ok2 T.fewest_worths.F sc_fewest_worths rfl rfl (k := 4) (t := t_fewest_worths sp_need_distances sp_need_distance sp_covering) (fun cdv A outer s H E hr => 
    (dss_cons (ds_expr (de_call (ok_need_distances T) (hr.mono (by decide)) rfl T.need_distances.m T.need_distances.F.kp T.need_distances.b .nil (fun _ => .nil) pass0 (da_cons (de_var (pv 0)) da_nil)))
      (dss_cons (ds_expr (de_call (ok_need_distance T) (hr.mono (by decide)) rfl T.need_distance.m T.need_distance.F.kp T.need_distance.b .nil (fun _ => .nil) pass0 (da_cons (de_var (pv 1)) da_nil)))
      (dss_one (ds_ret (de_call (ok_covering T) (hr.mono (by decide)) rfl T.covering.m T.covering.F.kp T.covering.b .nil (fun _ => .nil) pass0 (da_cons (de_var (pv 0)) (da_cons (de_var (pv 1)) da_nil)))))))) rd_fewest_worths
theorem ok_law_same_n (T : Tx K mg) : ∀ n : Nat, FnOk P w K mg base CX0 (n + 1) T.law_same.f T.law_same.fd P_law_same (cSp K (sp_law_same_n n))
  | 0 => DFunD.ok (k := 0) T.law_same.F sc_law_same (fun _ _ _ _ h => (no_law_same h).elim) (fun _ _ _ _ _ _ _ _ _ _ _ h => (no_law_same h).elim)
  | n + 1 => DFun.ok2 T.law_same.F sc_law_same rfl rfl (k := n + 1) (t := t_law_same (sp_law_same_n n)) (fun cdv A outer s H E hr => 
    (dss_cons (ds_if (dt_w (dw_or (dt_cmp dop_is (de_var (pv 1)) de_non (nomark _)) (dw_or1 (dt_truth (de_callB dcall_isi (by rfl) T.n_isinstance (by decide +kernel) (da_cons (de_var (pv 1)) (da_cons (de_c (pe_bltn (v := .ty "bool") (by rfl) T.n_bool (by decide +kernel) rfl) fun _ => .ty .bool) da_nil))))))) (dss_one (ds_ret (de_ifExp (dt_cmp dop_is (de_var (pv 1)) de_non (nomark _)) (de_cmp dop_is (de_var (pv 0)) de_non (nomark _)) (de_and (de_callB dcall_isi (by rfl) T.n_isinstance (by decide +kernel) (da_cons (de_var (pv 0)) (da_cons (de_c (pe_bltn (v := .ty "bool") (by rfl) T.n_bool (by decide +kernel) rfl) fun _ => .ty .bool) da_nil))) (de_one (de_cmp (dop_eqQ hr.units) (de_cmp dop_is (de_var (pv 0)) de_bl (nomark _)) (de_cmp dop_is (de_var (pv 1)) de_bl (nomark _)) (nomark _))))))) dss_nil)
      (dss_cons (ds_if (dt_truth (de_callB dcall_isi (by rfl) T.n_isinstance (by decide +kernel) (da_cons (de_var (pv 1)) (da_cons (de_c (pe_bltn (v := .ty "int") (by rfl) T.n_int (by decide +kernel) rfl) fun _ => .ty .int) da_nil)))) (dss_one (ds_ret (de_and (de_callB dcall_isi (by rfl) T.n_isinstance (by decide +kernel) (da_cons (de_var (pv 0)) (da_cons (de_c (pe_bltn (v := .ty "int") (by rfl) T.n_int (by decide +kernel) rfl) fun _ => .ty .int) da_nil))) (de_and (de_not (de_callB dcall_isi (by rfl) T.n_isinstance (by decide +kernel) (da_cons (de_var (pv 0)) (da_cons (de_c (pe_bltn (v := .ty "bool") (by rfl) T.n_bool (by decide +kernel) rfl) fun _ => .ty .bool) da_nil)))) (de_one (de_cmp (dop_eqQ hr.units) (de_op dop_sub (de_callTy dcall_int (by rfl) T.n_int (by decide +kernel) (da_cons (de_var (pv 0)) da_nil)) (de_var (pv 1))) de_int (nomark _))))))) dss_nil)
      (dss_cons (ds_if (dt_truth (de_callB dcall_isi (by rfl) T.n_isinstance (by decide +kernel) (da_cons (de_var (pv 1)) (da_cons (de_c (pe_bltn (v := .ty "str") (by rfl) T.n_str (by decide +kernel) rfl) fun _ => .ty .str) da_nil)))) (dss_cons (ds_if (dt_w (dw_or (dt_not (dt_truth (de_callB dcall_isi (by rfl) T.n_isinstance (by decide +kernel) (da_cons (de_var (pv 0)) (da_cons (de_c (pe_bltn (v := .ty "str") (by rfl) T.n_str (by decide +kernel) rfl) fun _ => .ty .str) da_nil))))) (dw_or1 (dt_cmp (dop_neQ hr.units) (de_callB dcall_len (by rfl) T.n_len (by decide +kernel) (da_cons (de_var (pv 0)) da_nil)) (de_callB dcall_len (by rfl) T.n_len (by decide +kernel) (da_cons (de_var (pv 1)) da_nil)) (nomark _))))) (dss_one (ds_ret de_bl)) dss_nil)
      (dss_one (ds_ret (de_cmp (dop_eqQ hr.units) (de_lc false (own := [("k", 2)]) (g := (.nm 2)) rfl sc_law_same.nd (di_range1 (by rfl) T.n_range (de_callB dcall_len (by rfl) T.n_len (by decide +kernel) (da_cons (de_var (pv 1)) da_nil))) (blkOk_by (N := N_law_same) (sc := defScope s_law_same) (own := [("k", 2)]) (by decide +kernel)) (fun _ _ _ _ _ => (pg_nm (pg_name (i := 2) sc_law_same.nd rfl (by first | exact Or.inl rfl | exact Or.inr rfl)))) (fun _ _ _ _ _ => (dts_one (dt_cmp (dop_neQ hr.units) (de_slice false (de_var (pv 0)) (do_some (de_var (pv 2))) (do_some (de_op dop_add (de_var (pv 2)) de_int))) (de_ix dix_seq (de_var (pv 1)) (de_var (pv 2)) (fun _ _ => rfl)) (nomark _)))) (fun _ _ _ _ _ => (de_var (pv 2))) (by decide)) (de_lst da_nil) (nomark _))))) dss_nil)
      (dss_cons (ds_if (dt_w (dw_or (dt_cmp (dop_neQ hr.units) (de_callB dcall_isi (by rfl) T.n_isinstance (by decide +kernel) (da_cons (de_var (pv 0)) (da_cons (de_c (pe_bltn (v := .ty "list") (by rfl) T.n_list (by decide +kernel) rfl) fun _ => .ty .lst) da_nil))) (de_callB dcall_isi (by rfl) T.n_isinstance (by decide +kernel) (da_cons (de_var (pv 1)) (da_cons (de_c (pe_bltn (v := .ty "list") (by rfl) T.n_list (by decide +kernel) rfl) fun _ => .ty .lst) da_nil))) (nomark _)) (dw_or1 (dt_cmp (dop_neQ hr.units) (de_callB dcall_isi (by rfl) T.n_isinstance (by decide +kernel) (da_cons (de_var (pv 0)) (da_cons (de_c (pe_bltn (v := .ty "tuple") (by rfl) T.n_tuple (by decide +kernel) rfl) fun _ => .ty .tup) da_nil))) (de_callB dcall_isi (by rfl) T.n_isinstance (by decide +kernel) (da_cons (de_var (pv 1)) (da_cons (de_c (pe_bltn (v := .ty "tuple") (by rfl) T.n_tuple (by decide +kernel) rfl) fun _ => .ty .tup) da_nil))) (nomark _))))) (dss_one (ds_ret de_bl)) dss_nil)
      (dss_one (ds_ret (de_and (de_cmp (dop_eqQ hr.units) (de_callB dcall_len (by rfl) T.n_len (by decide +kernel) (da_cons (de_var (pv 0)) da_nil)) (de_callB dcall_len (by rfl) T.n_len (by decide +kernel) (da_cons (de_var (pv 1)) da_nil)) (nomark _)) (de_one (de_cmp (dop_eqQ hr.units) (de_lc false (own := [("k", 2)]) (g := (.nm 2)) rfl sc_law_same.nd (di_range1 (by rfl) T.n_range (de_callB dcall_len (by rfl) T.n_len (by decide +kernel) (da_cons (de_var (pv 1)) da_nil))) (blkOk_by (N := N_law_same) (sc := defScope s_law_same) (own := [("k", 2)]) (by decide +kernel)) (fun _ _ _ _ _ => (pg_nm (pg_name (i := 2) sc_law_same.nd rfl (by first | exact Or.inl rfl | exact Or.inr rfl)))) (fun _ _ _ _ _ => (dts_one (dt_not (dt_truth (de_call (ok_law_same_n T n) hr rfl T.law_same.m T.law_same.F.kp T.law_same.b .nil (fun _ => .nil) pass0 (da_cons (de_ix dix_seq (de_var (pv 0)) (de_var (pv 2)) (fun _ _ => rfl)) (da_cons (de_ix dix_seq (de_var (pv 1)) (de_var (pv 2)) (fun _ _ => rfl)) da_nil))))))) (fun _ _ _ _ _ => (de_var (pv 2))) (by decide)) (de_lst da_nil) (nomark _))))))))))) (rd_law_same n)
theorem ok_law_same (T : Tx K mg) : FnOk P w K mg base CX0 8 T.law_same.f T.law_same.fd P_law_same (cSp K sp_law_same) := ok_law_same_n T 7
theorem ok_law_reached (T : Tx K mg) : FnOk P w K mg base CX0 1 T.law_reached.f T.law_reached.fd P_law_reached (cSp K sp_law_reached) :=
  DFun.ok3 T.law_reached.F sc_law_reached rfl rfl (k := 0) (t := t_law_reached) (fun cdv A outer s H E hr => 
    (dss_one (ds_ret (de_cmp (dop_eqQ hr.units) (de_lc false (own := [("one", 3)]) (g := (.nm 3)) rfl sc_law_reached.nd (di_seq (de_var (pv 0))) (blkOk_by (N := N_law_reached) (sc := defScope s_law_reached) (own := [("one", 3)]) (by decide +kernel)) (fun _ _ _ _ _ => (pg_nm (pg_name (i := 3) sc_law_reached.nd rfl (by first | exact Or.inl rfl | exact Or.inr rfl)))) (fun _ _ _ _ _ => (dts_one (dt_cmp (dop_eqQ hr.units) (de_lc false (own := [("worth", 4)]) (g := (.nm 4)) rfl sc_law_reached.nd (di_seq (de_var (pv 1))) (blkOk_by (N := N_law_reached) (sc := { kind := .function, names := [(".0", .local), ("one", .cell), ("reach", .cell), ("worths", .cell)], isGenerator := false, isCoroutine := false }) (own := [("worth", 4)]) (by decide +kernel)) (fun _ _ _ _ _ => (pg_nm (pg_name (i := 4) sc_law_reached.nd rfl (by first | exact Or.inl rfl | exact Or.inr rfl)))) (fun _ _ _ _ _ => (dts_one (dt_cmp dop_le (de_callB dcall_abs (by rfl) T.n_abs (by decide +kernel) (da_cons (de_op dop_sub (de_var (pv 4)) (de_var (pv 3))) da_nil)) (de_var (pv 2)) (nomark _)))) (fun _ _ _ _ _ => (de_var (pv 4))) (by decide)) (de_lst da_nil) (nomark _)))) (fun _ _ _ _ _ => (de_var (pv 3))) (by decide)) (de_lst da_nil) (nomark _))))) rd_law_reached
theorem ok_law_far_apart (T : Tx K mg) : FnOk P w K mg base CX0 1 T.law_far_apart.f T.law_far_apart.fd P_law_far_apart (cSp K sp_law_far_apart) :=
  DFun.ok2 T.law_far_apart.F sc_law_far_apart rfl rfl (k := 0) (t := t_law_far_apart) (fun cdv A outer s H E hr => 
    (dss_one (ds_ret (de_cmp (dop_eqQ hr.units) (de_lc false (own := [("k", 2)]) (g := (.nm 2)) rfl sc_law_far_apart.nd (di_range1 (by rfl) T.n_range (de_op dop_sub (de_callB dcall_len (by rfl) T.n_len (by decide +kernel) (da_cons (de_var (pv 0)) da_nil)) de_int)) (blkOk_by (N := N_law_far_apart) (sc := defScope s_law_far_apart) (own := [("k", 2)]) (by decide +kernel)) (fun _ _ _ _ _ => (pg_nm (pg_name (i := 2) sc_law_far_apart.nd rfl (by first | exact Or.inl rfl | exact Or.inr rfl)))) (fun _ _ _ _ _ => (dts_one (dt_cmp dop_lt (de_op dop_sub (de_ix dix_seq (de_var (pv 0)) (de_op dop_add (de_var (pv 2)) de_int) (fun _ _ => rfl)) (de_ix dix_seq (de_var (pv 0)) (de_var (pv 2)) (fun _ _ => rfl))) (de_var (pv 1)) (nomark _)))) (fun _ _ _ _ _ => (de_var (pv 2))) (by decide)) (de_lst da_nil) (nomark _))))) rd_law_far_apart
theorem ok_law_lists (T : Tx K mg) : FnOk P w K mg base CX0 1 T.law_lists.f T.law_lists.fd P_law_lists (cSp K sp_law_lists) :=
  DFun.ok3 T.law_lists.F sc_law_lists rfl rfl (k := 0) (t := t_law_lists) (fun cdv A outer s H E hr => 
    (dss_cons (ds_set (i := 3) sc_law_lists.nd rfl (by first | exact Or.inl rfl | exact Or.inr rfl) (de_lst (da_cons (de_lst da_nil) da_nil)))
      (dss_cons (ds_for (g := (.nm 4)) PassesOwn.never rfl (di_range1 (by rfl) T.n_range (de_var (pv 2))) (pg_nm (pg_name (i := 4) sc_law_lists.nd rfl (by first | exact Or.inl rfl | exact Or.inr rfl))) (dss_cons (ds_set (i := 5) sc_law_lists.nd rfl (by first | exact Or.inl rfl | exact Or.inr rfl) (de_lst da_nil))
      (dss_cons (ds_for (g := (.nm 6)) PassesOwn.never rfl (di_seq (de_var (pv 3))) (pg_nm (pg_name (i := 6) sc_law_lists.nd rfl (by first | exact Or.inl rfl | exact Or.inr rfl))) (dss_cons (ds_set (i := 7) sc_law_lists.nd rfl (by first | exact Or.inl rfl | exact Or.inr rfl) (de_ifExp (dt_cmp (dop_neQ hr.units) (de_var (pv 6)) (de_lst da_nil) (nomark _)) (de_ix dix_seq (de_var (pv 6)) (de_un dun_neg de_int) (fun _ _ => rfl)) (de_var (pv 0))))
      (dss_one (ds_set (i := 5) sc_law_lists.nd rfl (by first | exact Or.inl rfl | exact Or.inr rfl) (de_op dop_add (de_var (pv 5)) (de_lc false (own := [("number", 8)]) (g := (.nm 8)) rfl sc_law_lists.nd (di_range2 (by rfl) T.n_range (de_var (pv 7)) (de_op dop_add (de_var (pv 1)) de_int)) (blkOk_by (N := N_law_lists) (sc := defScope s_law_lists) (own := [("number", 8)]) (by decide +kernel)) (fun _ _ _ _ _ => (pg_nm (pg_name (i := 8) sc_law_lists.nd rfl (by first | exact Or.inl rfl | exact Or.inr rfl)))) (fun _ _ _ _ _ => dts_nil) (fun _ _ _ _ _ => (de_op dop_add (de_var (pv 6)) (de_lst (da_cons (de_var (pv 8)) da_nil)))) (by decide)))))))
      (dss_one (ds_set (i := 3) sc_law_lists.nd rfl (by first | exact Or.inl rfl | exact Or.inr rfl) (de_var (pv 5)))))))
      (dss_one (ds_ret (de_var (pv 3))))))) rd_law_lists
theorem ok_law_none_fewer (T : Tx K mg) : FnOk P w K mg base CX0 2 T.law_none_fewer.f T.law_none_fewer.fd P_law_none_fewer (cSp K sp_law_none_fewer) :=
  DFun.ok3 T.law_none_fewer.F sc_law_none_fewer rfl rfl (k := 1) (t := t_law_none_fewer sp_law_lists sp_law_reached) (fun cdv A outer s H E hr => 
    (dss_cons (ds_par (i := 3) (j := 4) rfl sc_law_none_fewer.nd rfl rfl (by decide) rfl rfl (da_cons (de_callB (dcall_minQ rfl) (by rfl) T.n_min (by decide +kernel) (da_cons (de_var (pv 0)) da_nil)) (da_cons (de_callB (dcall_maxQ rfl) (by rfl) T.n_max (by decide +kernel) (da_cons (de_var (pv 0)) da_nil)) da_nil)) (by rfl))
      (dss_cons (ds_if (dt_w (dw_or (dt_cmp dop_gt (de_op dop_sub (de_var (pv 4)) (de_var (pv 3))) de_int (nomark _)) (dw_or1 (dt_cmp dop_gt (de_var (pv 2)) de_int (nomark _))))) (dss_one (ds_ret de_bl)) dss_nil)
      (dss_one (ds_ret (de_cmp (dop_eqQ hr.units) (de_lc false (own := [("row", 5)]) (g := (.nm 5)) rfl sc_law_none_fewer.nd (di_seq (de_call (ok_law_lists T) (hr.mono (by decide)) rfl T.law_lists.m T.law_lists.F.kp T.law_lists.b .nil (fun _ => .nil) pass0 (da_cons (de_var (pv 3)) (da_cons (de_var (pv 4)) (da_cons (de_op dop_sub (de_var (pv 2)) de_int) da_nil))))) (blkOk_by (N := N_law_none_fewer) (sc := defScope s_law_none_fewer) (own := [("row", 5)]) (by decide +kernel)) (fun _ _ _ _ _ => (pg_nm (pg_name (i := 5) sc_law_none_fewer.nd rfl (by first | exact Or.inl rfl | exact Or.inr rfl)))) (fun _ _ _ _ _ => (dts_one (dt_truth (de_call (ok_law_reached T) (hr.mono (by decide)) rfl T.law_reached.m T.law_reached.F.kp T.law_reached.b .nil (fun _ => .nil) pass0 (da_cons (de_var (pv 0)) (da_cons (de_var (pv 5)) (da_cons (de_var (pv 1)) da_nil))))))) (fun _ _ _ _ _ => (de_var (pv 5))) (by decide)) (de_lst da_nil) (nomark _))))))) rd_law_none_fewer
theorem ok_need_most (T : Tx K mg) : FnOk P w K mg base CX0 3 T.need_most.f T.need_most.fd P_need_most (cSp K sp_need_most) :=
  DFun.ok1 T.need_most.F sc_need_most rfl rfl (k := 2) (t := t_need_most sp_is_whole) (fun cdv A outer s H E hr => 
    (dss_one (ds_if (dt_not (dt_truth (de_call (ok_is_whole T) (hr.mono (by decide)) rfl T.is_whole.m T.is_whole.F.kp T.is_whole.b .nil (fun _ => .nil) pass0 (da_cons (de_var (pv 0)) (da_cons de_int (da_cons (de_c (pe_glob (v := .int 12) rfl T.c_MOST_WORTHS ⟨_, rfl⟩) fun _ => .int _) da_nil)))))) (dss_one ds_never) dss_nil))) rd_need_most
theorem ok_reach_for (T : Tx K mg) : FnOk P w K mg base CX0 2 T.reach_for.f T.reach_for.fd P_reach_for (cSp K sp_reach_for) :=
  DFun.ok2 T.reach_for.F sc_reach_for rfl rfl (k := 1) (t := t_reach_for sp_groups_of) (fun cdv A outer s H E hr => 
    (dss_cons (ds_par (i := 2) (j := 3) rfl sc_reach_for.nd rfl rfl (by decide) rfl rfl (da_cons de_int (da_cons (de_callB (dcall_maxQ rfl) (by rfl) T.n_max (by decide +kernel) (da_cons (de_var (pv 0)) da_nil)) da_nil)) (by rfl))
      (dss_cons (ds_while PassesOwn.never (dt_cmp dop_lt (de_var (pv 2)) (de_var (pv 3)) (nomark _)) (dss_cons (ds_set (i := 4) sc_reach_for.nd rfl (by first | exact Or.inl rfl | exact Or.inr rfl) (de_op dop_fdiv (de_op dop_add (de_var (pv 2)) (de_var (pv 3))) de_int))
      (dss_one (ds_if (dt_cmp dop_le (de_callB dcall_len (by rfl) T.n_len (by decide +kernel) (da_cons (de_call (ok_groups_of T) (hr.mono (by decide)) rfl T.groups_of.m T.groups_of.F.kp T.groups_of.b .nil (fun _ => .nil) pass0 (da_cons (de_var (pv 0)) (da_cons (de_var (pv 4)) da_nil))) da_nil)) (de_var (pv 1)) (nomark _)) (dss_one (ds_set (i := 3) sc_reach_for.nd rfl (by first | exact Or.inl rfl | exact Or.inr rfl) (de_var (pv 4)))) (dss_one (ds_set (i := 2) sc_reach_for.nd rfl (by first | exact Or.inl rfl | exact Or.inr rfl) (de_op dop_add (de_var (pv 4)) de_int)))))))
      (dss_one (ds_ret (de_var (pv 2))))))) rd_reach_for
theorem ok_least_reach (T : Tx K mg) : FnOk P w K mg base CX0 5 T.least_reach.f T.least_reach.fd P_least_reach (cSp K sp_least_reach) :=
  DFun.ok2 T.least_reach.F sc_least_reach rfl rfl (k := 4) (t := t_least_reach K sp_need_distances sp_need_most sp_reach_for sp_covering) (fun cdv A outer s H E hr => 
    (dss_cons (ds_expr (de_call (ok_need_distances T) (hr.mono (by decide)) rfl T.need_distances.m T.need_distances.F.kp T.need_distances.b .nil (fun _ => .nil) pass0 (da_cons (de_var (pv 0)) da_nil)))
      (dss_cons (ds_expr (de_call (ok_need_most T) (hr.mono (by decide)) rfl T.need_most.m T.need_most.F.kp T.need_most.b .nil (fun _ => .nil) pass0 (da_cons (de_var (pv 1)) da_nil)))
      (dss_cons (ds_set (i := 2) sc_least_reach.nd rfl (by first | exact Or.inl rfl | exact Or.inr rfl) (de_call (ok_reach_for T) (hr.mono (by decide)) rfl T.reach_for.m T.reach_for.F.kp T.reach_for.b .nil (fun _ => .nil) pass0 (da_cons (de_var (pv 0)) (da_cons (de_var (pv 1)) da_nil))))
      (dss_cons (ds_asg (g := (.tp [(.nm 3), (.nm 4)])) (de_call (ok_covering T) (hr.mono (by decide)) rfl T.covering.m T.covering.F.kp T.covering.b .nil (fun _ => .nil) pass0 (da_cons (de_var (pv 0)) (da_cons (de_var (pv 2)) da_nil))) (pg_tp rfl (pgs_c (pg_nm (pg_name (i := 3) sc_least_reach.nd rfl (by first | exact Or.inl rfl | exact Or.inr rfl))) (pgs_c (pg_nm (pg_name (i := 4) sc_least_reach.nd rfl (by first | exact Or.inl rfl | exact Or.inr rfl))) pgs_n))))
      (dss_cons (ds_set (i := 5) sc_least_reach.nd rfl (by first | exact Or.inl rfl | exact Or.inr rfl) (de_ifExp (dt_cmp dop_gt (de_var (pv 2)) de_int (nomark _)) (de_slice false (de_ix dix_seq (de_call (ok_covering T) (hr.mono (by decide)) rfl T.covering.m T.covering.F.kp T.covering.b .nil (fun _ => .nil) pass0 (da_cons (de_var (pv 0)) (da_cons (de_op dop_sub (de_var (pv 2)) de_int) da_nil))) de_int (fun _ _ => rfl)) do_none (do_some (de_op dop_add (de_var (pv 1)) de_int))) (de_lst da_nil)))
      (dss_one (ds_ghost (ds_ret (de_tup (da_cons (de_var (pv 2)) (da_cons (de_var (pv 3)) (da_cons (de_var (pv 5)) da_nil))))))))))))) rd_least_reach
theorem ok_law_reach_right (T : Tx K mg) : FnOk P w K mg base CX0 9 T.law_reach_right.f T.law_reach_right.fd P_law_reach_right (cSp K sp_law_reach_right) :=
  DFun.ok2 T.law_reach_right.F sc_law_reach_right rfl rfl (k := 8) (t := t_law_reach_right sp_law_take sp_least_reach sp_law_same sp_law_due sp_law_reached sp_law_far_apart) (fun cdv A outer s H E hr => 
    (dss_cons (ds_set (i := 2) sc_law_reach_right.nd rfl (by first | exact Or.inl rfl | exact Or.inr rfl) (de_op dop_add de_int (de_call (ok_law_take T) (hr.mono (by decide)) rfl T.law_take.m T.law_take.F.kp T.law_take.b .nil (fun _ => .nil) pass0 (da_cons (de_var (pv 0)) (da_cons (de_ix dix_seq (de_lst (da_cons de_int (da_cons de_int da_nil))) (de_call (ok_law_take T) (hr.mono (by decide)) rfl T.law_take.m T.law_take.F.kp T.law_take.b .nil (fun _ => .nil) pass0 (da_cons (de_var (pv 0)) (da_cons de_int da_nil))) (fun _ _ => rfl)) da_nil)))))
      (dss_cons (ds_set (i := 3) sc_law_reach_right.nd rfl (by first | exact Or.inl rfl | exact Or.inr rfl) (de_call (ok_least_reach T) (hr.mono (by decide)) rfl T.least_reach.m T.least_reach.F.kp T.least_reach.b .nil (fun _ => .nil) pass0 (da_cons (de_callTy (dcall_list false) (by rfl) T.n_list (by decide +kernel) (da_cons (de_var (pv 1)) da_nil)) (da_cons (de_var (pv 2)) da_nil))))
      (dss_cons (ds_if (dt_w (dw_or (dt_not (dt_truth (de_callB dcall_isi (by rfl) T.n_isinstance (by decide +kernel) (da_cons (de_var (pv 3)) (da_cons (de_c (pe_bltn (v := .ty "tuple") (by rfl) T.n_tuple (by decide +kernel) rfl) fun _ => .ty .tup) da_nil))))) (dw_or (dt_cmp (dop_neQ hr.units) (de_callB dcall_len (by rfl) T.n_len (by decide +kernel) (da_cons (de_var (pv 3)) da_nil)) de_int (nomark _)) (dw_or (dt_not (dt_truth (de_callB dcall_isi (by rfl) T.n_isinstance (by decide +kernel) (da_cons (de_ix dix_seq (de_var (pv 3)) de_int (fun _ _ => rfl)) (da_cons (de_c (pe_bltn (v := .ty "int") (by rfl) T.n_int (by decide +kernel) rfl) fun _ => .ty .int) da_nil))))) (dw_or1 (dt_truth (de_callB dcall_isi (by rfl) T.n_isinstance (by decide +kernel) (da_cons (de_ix dix_seq (de_var (pv 3)) de_int (fun _ _ => rfl)) (da_cons (de_c (pe_bltn (v := .ty "bool") (by rfl) T.n_bool (by decide +kernel) rfl) fun _ => .ty .bool) da_nil))))))))) (dss_one (ds_ret de_bl)) dss_nil)
      (dss_cons (ds_set (i := 4) sc_law_reach_right.nd rfl (by first | exact Or.inl rfl | exact Or.inr rfl) (de_ix dix_seq (de_var (pv 3)) de_int (fun _ _ => rfl)))
      (dss_cons (ds_if (dt_w (dw_or (dt_not (dt_chain dop_le dop_le de_int (de_var (pv 4)) de_int)) (dw_or (dt_not (dt_truth (de_call (ok_law_same T) (hr.mono (by decide)) rfl T.law_same.m T.law_same.F.kp T.law_same.b .nil (fun _ => .nil) pass0 (da_cons (de_ix dix_seq (de_var (pv 3)) de_int (fun _ _ => rfl)) (da_cons (de_ix dix_seq (de_call (ok_law_due T) (hr.mono (by decide)) rfl T.law_due.m T.law_due.F.kp T.law_due.b .nil (fun _ => .nil) pass0 (da_cons (de_var (pv 1)) (da_cons (de_var (pv 4)) da_nil))) de_int (fun _ _ => rfl)) da_nil))))) (dw_or1 (dt_cmp dop_gt (de_callB dcall_len (by rfl) T.n_len (by decide +kernel) (da_cons (de_ix dix_seq (de_var (pv 3)) de_int (fun _ _ => rfl)) da_nil)) (de_var (pv 2)) (nomark _)))))) (dss_one (ds_ret de_bl)) dss_nil)
      (dss_cons (ds_set (i := 5) sc_law_reach_right.nd rfl (by first | exact Or.inl rfl | exact Or.inr rfl) (de_ifExp (dt_cmp dop_gt (de_var (pv 4)) de_int (nomark _)) (de_slice false (de_ix dix_seq (de_call (ok_law_due T) (hr.mono (by decide)) rfl T.law_due.m T.law_due.F.kp T.law_due.b .nil (fun _ => .nil) pass0 (da_cons (de_var (pv 1)) (da_cons (de_op dop_sub (de_var (pv 4)) de_int) da_nil))) de_int (fun _ _ => rfl)) do_none (do_some (de_op dop_add (de_var (pv 2)) de_int))) (de_lst da_nil)))
      (dss_cons (ds_if (dt_w (dw_or (dt_not (dt_truth (de_call (ok_law_same T) (hr.mono (by decide)) rfl T.law_same.m T.law_same.F.kp T.law_same.b .nil (fun _ => .nil) pass0 (da_cons (de_ix dix_seq (de_var (pv 3)) de_int (fun _ _ => rfl)) (da_cons (de_var (pv 5)) da_nil))))) (dw_or1 (dt_not (dt_truth (de_call (ok_law_reached T) (hr.mono (by decide)) rfl T.law_reached.m T.law_reached.F.kp T.law_reached.b .nil (fun _ => .nil) pass0 (da_cons (de_var (pv 1)) (da_cons (de_ix dix_seq (de_var (pv 3)) de_int (fun _ _ => rfl)) (da_cons (de_var (pv 4)) da_nil))))))))) (dss_one (ds_ret de_bl)) dss_nil)
      (dss_cons (ds_if (dt_w (dw_and (dt_cmp dop_gt (de_var (pv 4)) de_int (nomark _)) (dw_and1 (dt_w (dw_or (dt_cmp (dop_neQ hr.units) (de_callB dcall_len (by rfl) T.n_len (by decide +kernel) (da_cons (de_var (pv 5)) da_nil)) (de_op dop_add (de_var (pv 2)) de_int) (nomark _)) (dw_or1 (dt_not (dt_truth (de_call (ok_law_far_apart T) (hr.mono (by decide)) rfl T.law_far_apart.m T.law_far_apart.F.kp T.law_far_apart.b .nil (fun _ => .nil) pass0 (da_cons (de_var (pv 5)) (da_cons (de_op dop_sub (de_op dop_mul de_int (de_var (pv 4))) de_int) da_nil))))))))))) (dss_one (ds_ret de_bl)) dss_nil)
      (dss_cons (ds_expr (de_mtL PySem.F.slot_list_append PySem.F.type_list_append dmt_append (de_ix dix_seq (de_var (pv 3)) de_int (fun _ _ => rfl)) (da_cons (de_un dun_neg de_int) da_nil)))
      (dss_one (ds_ret (de_call (ok_law_same T) (hr.mono (by decide)) rfl T.law_same.m T.law_same.F.kp T.law_same.b .nil (fun _ => .nil) pass0 (da_cons (de_ix dix_seq (de_callN0 (ks := ["many", "distances"]) (ok_least_reach T) (hr.mono (by decide)) rfl T.least_reach.m T.least_reach.F.kp T.least_reach_kb0 (fun _ _ _ _ _ r q => r.kperm _ q) pass0 (dk_cons (de_var (pv 2)) (dk_cons (de_callTy dcall_tuple (by rfl) T.n_tuple (by decide +kernel) (da_cons (de_var (pv 1)) da_nil)) dk_nil))) de_int (fun _ _ => rfl)) (da_cons (de_var (pv 4)) da_nil))))))))))))))) rd_law_reach_right
theorem ok_law (T : Tx K mg) {f : Addr} {fd : FuncData} (F : FunD K "law" "law" (defArgs s_law) (defBody s_law) (defScope s_law) [] [] f fd) : FnOk P w K mg base CX0 10 f fd P_law (cSp K sp_law) :=
  DFun.ok1 F sc_law rfl rfl (k := 9) (t := t_law K sp_law_box sp_law_cell sp_law_take sp_law_distances sp_law_due sp_fewest_worths sp_law_same sp_law_reached sp_law_far_apart sp_law_none_fewer sp_law_reach_right) (fun cdv A outer s H E hr => 
    (dss_cons (ds_for (g := (.nm 1)) PassesOwn.never rfl (di_range1 (by rfl) T.n_range (de_callB (dcall_max2 rfl) (by rfl) T.n_max (by decide +kernel) (da_cons de_int (da_cons (de_callB (dcall_min2 rfl) (by rfl) T.n_min (by decide +kernel) (da_cons de_int (da_cons (de_callB dcall_len (by rfl) T.n_len (by decide +kernel) (da_cons (de_var (pv 0)) da_nil)) da_nil))) da_nil)))) (pg_nm (pg_name (i := 1) sc_law.nd rfl (by first | exact Or.inl rfl | exact Or.inr rfl))) (dss_cons (ds_set (i := 2) sc_law.nd rfl (by first | exact Or.inl rfl | exact Or.inr rfl) (de_call (ok_law_box T) (hr.mono (by decide)) rfl T.law_box.m T.law_box.F.kp T.law_box.b .nil (fun _ => .nil) pass0 (da_cons (de_call (ok_law_cell T) (hr.mono (by decide)) rfl T.law_cell.m T.law_cell.F.kp T.law_cell.b .nil (fun _ => .nil) pass0 (da_cons (de_var (pv 0)) (da_cons (de_var (pv 1)) da_nil))) da_nil)))
      (dss_cons (ds_set (i := 3) sc_law.nd rfl (by first | exact Or.inl rfl | exact Or.inr rfl) (de_ix dix_seq (de_lst (da_cons (de_call (ok_law_take T) (hr.mono (by decide)) rfl T.law_take.m T.law_take.F.kp T.law_take.b .nil (fun _ => .nil) pass0 (da_cons (de_var (pv 2)) (da_cons de_int da_nil))) (da_cons (de_call (ok_law_take T) (hr.mono (by decide)) rfl T.law_take.m T.law_take.F.kp T.law_take.b .nil (fun _ => .nil) pass0 (da_cons (de_var (pv 2)) (da_cons de_int da_nil))) (da_cons (de_call (ok_law_take T) (hr.mono (by decide)) rfl T.law_take.m T.law_take.F.kp T.law_take.b .nil (fun _ => .nil) pass0 (da_cons (de_var (pv 2)) (da_cons de_int da_nil))) (da_cons de_int da_nil))))) (de_call (ok_law_take T) (hr.mono (by decide)) rfl T.law_take.m T.law_take.F.kp T.law_take.b .nil (fun _ => .nil) pass0 (da_cons (de_var (pv 2)) (da_cons de_int da_nil))) (fun _ _ => rfl)))
      (dss_cons (ds_set (i := 4) sc_law.nd rfl (by first | exact Or.inl rfl | exact Or.inr rfl) (de_call (ok_law_distances T) (hr.mono (by decide)) rfl T.law_distances.m T.law_distances.F.kp T.law_distances.b .nil (fun _ => .nil) pass0 (da_cons (de_var (pv 2)) (da_cons (de_var (pv 3)) da_nil))))
      (dss_cons (ds_if (dt_cmp (dop_eqQ hr.units) (de_call (ok_law_take T) (hr.mono (by decide)) rfl T.law_take.m T.law_take.F.kp T.law_take.b .nil (fun _ => .nil) pass0 (da_cons (de_var (pv 2)) (da_cons de_int da_nil))) de_int (nomark _)) (dss_cons (ds_setLc false (i := 4) (own := [("one", 9)]) (g := (.nm 9)) rfl sc_law.nd rfl rfl (sw_true rfl rfl rfl (by decide +kernel)) (di_seq (de_slice false (de_var (pv 4)) do_none (do_some de_int))) (blkOk_by (N := N_law) (sc := defScope s_law) (own := [("one", 9)]) (by decide +kernel)) (fun _ _ _ _ _ => (pg_nm (pg_name (i := 9) sc_law.nd rfl (by first | exact Or.inl rfl | exact Or.inr rfl)))) (fun _ _ _ _ _ => dts_nil) (fun _ _ _ _ _ => (de_op dop_add de_int (de_op dop_mod (de_callTy dcall_int (by rfl) T.n_int (by decide +kernel) (da_cons (de_var (pv 9)) da_nil)) de_int))) (by decide))
      (dss_one (ds_set (i := 3) sc_law.nd rfl (by first | exact Or.inl rfl | exact Or.inr rfl) (de_call (ok_law_take T) (hr.mono (by decide)) rfl T.law_take.m T.law_take.F.kp T.law_take.b .nil (fun _ => .nil) pass0 (da_cons (de_var (pv 2)) (da_cons de_int da_nil)))))) dss_nil)
      (dss_cons (ds_set (i := 5) sc_law.nd rfl (by first | exact Or.inl rfl | exact Or.inr rfl) (de_callTy (dcall_list false) (by rfl) T.n_list (by decide +kernel) (da_cons (de_var (pv 4)) da_nil)))
      (dss_cons (ds_asg (g := (.tp [(.nm 6), (.nm 7)])) (de_call (ok_law_due T) (hr.mono (by decide)) rfl T.law_due.m T.law_due.F.kp T.law_due.b .nil (fun _ => .nil) pass0 (da_cons (de_var (pv 4)) (da_cons (de_var (pv 3)) da_nil))) (pg_tp rfl (pgs_c (pg_nm (pg_name (i := 6) sc_law.nd rfl (by first | exact Or.inl rfl | exact Or.inr rfl))) (pgs_c (pg_nm (pg_name (i := 7) sc_law.nd rfl (by first | exact Or.inl rfl | exact Or.inr rfl))) pgs_n))))
      (dss_cons (ds_set (i := 8) sc_law.nd rfl (by first | exact Or.inl rfl | exact Or.inr rfl) (de_call (ok_fewest_worths T) (hr.mono (by decide)) rfl T.fewest_worths.m T.fewest_worths.F.kp T.fewest_worths.b .nil (fun _ => .nil) pass0 (da_cons (de_var (pv 5)) (da_cons (de_var (pv 3)) da_nil))))
      (dss_cons (ds_if (dt_w (dw_or (dt_not (dt_truth (de_call (ok_law_same T) (hr.mono (by decide)) rfl T.law_same.m T.law_same.F.kp T.law_same.b .nil (fun _ => .nil) pass0 (da_cons (de_var (pv 8)) (da_cons (de_tup (da_cons (de_var (pv 6)) (da_cons (de_var (pv 7)) da_nil))) da_nil))))) (dw_or1 (dt_not (dt_truth (de_call (ok_law_same T) (hr.mono (by decide)) rfl T.law_same.m T.law_same.F.kp T.law_same.b .nil (fun _ => .nil) pass0 (da_cons (de_var (pv 5)) (da_cons (de_var (pv 4)) da_nil)))))))) (dss_one (ds_ret de_bl)) dss_nil)
      (dss_cons (ds_if (dt_w (dw_or (dt_not (dt_truth (de_call (ok_law_reached T) (hr.mono (by decide)) rfl T.law_reached.m T.law_reached.F.kp T.law_reached.b .nil (fun _ => .nil) pass0 (da_cons (de_var (pv 4)) (da_cons (de_ix dix_seq (de_var (pv 8)) de_int (fun _ _ => rfl)) (da_cons (de_var (pv 3)) da_nil)))))) (dw_or1 (dt_not (dt_truth (de_call (ok_law_far_apart T) (hr.mono (by decide)) rfl T.law_far_apart.m T.law_far_apart.F.kp T.law_far_apart.b .nil (fun _ => .nil) pass0 (da_cons (de_ix dix_seq (de_var (pv 8)) de_int (fun _ _ => rfl)) (da_cons (de_op dop_add (de_op dop_mul de_int (de_var (pv 3))) de_int) da_nil)))))))) (dss_one (ds_ret de_bl)) dss_nil)
      (dss_cons (ds_if (dt_w (dw_and (dt_cmp dop_le (de_callB dcall_len (by rfl) T.n_len (by decide +kernel) (da_cons (de_var (pv 4)) da_nil)) de_int (nomark _)) (dw_and1 (dt_not (dt_truth (de_call (ok_law_none_fewer T) (hr.mono (by decide)) rfl T.law_none_fewer.m T.law_none_fewer.F.kp T.law_none_fewer.b .nil (fun _ => .nil) pass0 (da_cons (de_var (pv 4)) (da_cons (de_var (pv 3)) (da_cons (de_callB dcall_len (by rfl) T.n_len (by decide +kernel) (da_cons (de_var (pv 6)) da_nil)) da_nil))))))))) (dss_one (ds_ret de_bl)) dss_nil)
      (dss_cons (ds_expr (de_mtL PySem.F.slot_list_append PySem.F.type_list_append dmt_append (de_ix dix_seq (de_var (pv 8)) de_int (fun _ _ => rfl)) (da_cons (de_un dun_neg de_int) da_nil)))
      (dss_cons (ds_if (dt_not (dt_truth (de_call (ok_law_same T) (hr.mono (by decide)) rfl T.law_same.m T.law_same.F.kp T.law_same.b .nil (fun _ => .nil) pass0 (da_cons (de_callN0 (ks := ["reach", "distances"]) (ok_fewest_worths T) (hr.mono (by decide)) rfl T.fewest_worths.m T.fewest_worths.F.kp T.fewest_worths_kb0 (fun _ _ _ _ _ r q => r.kperm _ q) pass0 (dk_cons (de_var (pv 3)) (dk_cons (de_callTy dcall_tuple (by rfl) T.n_tuple (by decide +kernel) (da_cons (de_var (pv 4)) da_nil)) dk_nil))) (da_cons (de_tup (da_cons (de_var (pv 6)) (da_cons (de_var (pv 7)) da_nil))) da_nil))))) (dss_one (ds_ret de_bl)) dss_nil)
      (dss_one (ds_if (dt_not (dt_truth (de_call (ok_law_reach_right T) (hr.mono (by decide)) rfl T.law_reach_right.m T.law_reach_right.F.kp T.law_reach_right.b .nil (fun _ => .nil) pass0 (da_cons (de_var (pv 2)) (da_cons (de_var (pv 4)) da_nil))))) (dss_one (ds_ret de_bl)) dss_nil)))))))))))))))
      (dss_one (ds_ghost (ds_ret de_bl))))) rd_law
end
def dd_law_box : He.DefD := ⟨("_law_box", none), "_law_box", "_law_box", defArgs s_law_box, defBody s_law_box, defScope s_law_box, [], []⟩
def dd_law_cell : He.DefD := ⟨("_law_cell", none), "_law_cell", "_law_cell", defArgs s_law_cell, defBody s_law_cell, defScope s_law_cell, [], []⟩
def dd_law_take : He.DefD := ⟨("_law_take", none), "_law_take", "_law_take", defArgs s_law_take, defBody s_law_take, defScope s_law_take, [], []⟩
def dd_law_distances : He.DefD := ⟨("_law_distances", none), "_law_distances", "_law_distances", defArgs s_law_distances, defBody s_law_distances, defScope s_law_distances, [], []⟩
def dd_law_sorted : He.DefD := ⟨("_law_sorted", none), "_law_sorted", "_law_sorted", defArgs s_law_sorted, defBody s_law_sorted, defScope s_law_sorted, [], []⟩
def dd_law_due : He.DefD := ⟨("_law_due", none), "_law_due", "_law_due", defArgs s_law_due, defBody s_law_due, defScope s_law_due, [], []⟩
def dd_is_list : He.DefD := ⟨("is_list", none), "is_list", "is_list", defArgs s_is_list, defBody s_is_list, defScope s_is_list, [], []⟩
def dd_is_plain : He.DefD := ⟨("is_plain", none), "is_plain", "is_plain", defArgs s_is_plain, defBody s_is_plain, defScope s_is_plain, [], []⟩
def dd_is_whole : He.DefD := ⟨("is_whole", none), "is_whole", "is_whole", defArgs s_is_whole, defBody s_is_whole, defScope s_is_whole, [], []⟩
def dd_need_distance : He.DefD := ⟨("need_distance", none), "need_distance", "need_distance", defArgs s_need_distance, defBody s_need_distance, defScope s_need_distance, [], []⟩
def dd_need_distances : He.DefD := ⟨("need_distances", none), "need_distances", "need_distances", defArgs s_need_distances, defBody s_need_distances, defScope s_need_distances, [], []⟩
def dd_groups_of : He.DefD := ⟨("groups_of", none), "groups_of", "groups_of", defArgs s_groups_of, defBody s_groups_of, defScope s_groups_of, [], []⟩
def dd_covering : He.DefD := ⟨("covering", none), "covering", "covering", defArgs s_covering, defBody s_covering, defScope s_covering, [], []⟩
def dd_fewest_worths : He.DefD := ⟨("fewest_worths", none), "fewest_worths", "fewest_worths", defArgs s_fewest_worths, defBody s_fewest_worths, defScope s_fewest_worths, [], []⟩
def dd_law_same : He.DefD := ⟨("_law_same", none), "_law_same", "_law_same", defArgs s_law_same, defBody s_law_same, defScope s_law_same, [], []⟩
def dd_law_reached : He.DefD := ⟨("_law_reached", none), "_law_reached", "_law_reached", defArgs s_law_reached, defBody s_law_reached, defScope s_law_reached, [], []⟩
def dd_law_far_apart : He.DefD := ⟨("_law_far_apart", none), "_law_far_apart", "_law_far_apart", defArgs s_law_far_apart, defBody s_law_far_apart, defScope s_law_far_apart, [], []⟩
def dd_law_lists : He.DefD := ⟨("_law_lists", none), "_law_lists", "_law_lists", defArgs s_law_lists, defBody s_law_lists, defScope s_law_lists, [], []⟩
def dd_law_none_fewer : He.DefD := ⟨("_law_none_fewer", none), "_law_none_fewer", "_law_none_fewer", defArgs s_law_none_fewer, defBody s_law_none_fewer, defScope s_law_none_fewer, [], []⟩
def dd_need_most : He.DefD := ⟨("need_most", none), "need_most", "need_most", defArgs s_need_most, defBody s_need_most, defScope s_need_most, [], []⟩
def dd_reach_for : He.DefD := ⟨("reach_for", none), "reach_for", "reach_for", defArgs s_reach_for, defBody s_reach_for, defScope s_reach_for, [], []⟩
def dd_least_reach : He.DefD := ⟨("least_reach", none), "least_reach", "least_reach", defArgs s_least_reach, defBody s_least_reach, defScope s_least_reach, [], []⟩
def dd_law_reach_right : He.DefD := ⟨("_law_reach_right", none), "_law_reach_right", "_law_reach_right", defArgs s_law_reach_right, defBody s_law_reach_right, defScope s_law_reach_right, [], []⟩
def dd_law : He.DefD := ⟨("law", none), "law", "law", defArgs s_law, defBody s_law, defScope s_law, [], []⟩
def fnL : List He.DefD := [dd_law_box, dd_law_cell, dd_law_take, dd_law_distances, dd_law_sorted, dd_law_due, dd_is_list, dd_is_plain, dd_is_whole, dd_need_distance, dd_need_distances, dd_groups_of, dd_covering, dd_fewest_worths, dd_law_same, dd_law_reached, dd_law_far_apart, dd_law_lists, dd_law_none_fewer, dd_need_most, dd_reach_for, dd_least_reach, dd_law_reach_right, dd_law]
def fa0 : List He.Fa := [.glo "_law_box", .glo "_law_cell", .glo "_law_take", .glo "_law_distances", .glo "_law_sorted", .glo "_law_due", .glo "is_list", .glo "is_plain", .glo "is_whole", .glo "need_distance", .glo "need_distances", .glo "groups_of", .glo "covering", .glo "fewest_worths", .glo "_law_same", .glo "_law_reached", .glo "_law_far_apart", .glo "_law_lists", .glo "_law_none_fewer", .glo "need_most", .glo "reach_for", .glo "least_reach", .glo "_law_reach_right", .glo "law", .free "abs", .free "bool", .free "int", .free "isinstance", .free "len", .free "list"]
def fa1 : List He.Fa := [.free "max", .free "min", .free "range", .free "sorted", .free "str", .free "tuple", .int "MOST_DISTANCES" 100, .int "MOST_UNITS" 99999, .int "MOST_WORTHS" 12]
def faL : List He.Fa := fa0 ++ fa1
def ot0 : List Str := ["FontError", "NoNumber", "NoLimit", "is_plain", "is_whole", "is_list", "MOST_UNITS", "MOST_WORTHS", "MOST_DISTANCES", "need_distance", "need_distances", "need_most", "groups_of", "covering", "fewest_worths", "reach_for", "least_reach", "_law_cell", "_law_box", "_law_take", "_law_same", "_law_distances", "_law_sorted", "_law_due", "_law_reached", "_law_lists", "_law_none_fewer", "_law_far_apart", "_law_reach_right"]
def others : List Str := ot0
abbrev R : PySem.W.OpenRow := PySem.W.OpenLaw.row PySem.Challenge.rw_hintscribe_k73_whole_fewest_worths
abbrev hk : PySem.W.Hook := He.hookD 5 faL fnL
def ob (s : PySem.W.SharedT) : He.AlD := He.obsDG 5 faL fnL (HandSHeadRun.getT s)
theorem ob_eq (s : PySem.W.SharedT) : ob s = hk.obs s.abs := He.obsDG_eq (HandSHeadRun.getT_eq s)
theorem run (w : World) : HandSHeadRun.RunEq R (PySem.W.view R.prog [34]) hk ob 2000 others w := by
  intro os
  kernel_rfl
theorem facts {P : Program} {w : World} {K : PySem.W.Frag} {h : Heap} {mg : Str → Option Value} {f : Addr} (X : K.In h) (G : h.Ns mainGlobals mg) (hfa : mg ("law" : Str) = some (.ref f)) (c : He.SaysD faL fnL K) :
    ∃ fd : FuncData, (∀ (s : Shared) (v : Value), BindsTo s fd ⟨[v], []⟩ [("script", v)]) ∧ ∀ base : Heap, K.In base → base.Ns mainGlobals mg → FnOk P w K mg base CX0 10 f fd P_law (cSp K sp_law) := by
  obtain ⟨fd_law_box, F_law_box⟩ := c.def_ 0 (d := dd_law_box) rfl
  obtain ⟨fd_law_cell, F_law_cell⟩ := c.def_ 1 (d := dd_law_cell) rfl
  obtain ⟨fd_law_take, F_law_take⟩ := c.def_ 2 (d := dd_law_take) rfl
  obtain ⟨fd_law_distances, F_law_distances⟩ := c.def_ 3 (d := dd_law_distances) rfl
  obtain ⟨fd_law_sorted, F_law_sorted⟩ := c.def_ 4 (d := dd_law_sorted) rfl
  obtain ⟨fd_law_due, F_law_due⟩ := c.def_ 5 (d := dd_law_due) rfl
  obtain ⟨fd_is_list, F_is_list⟩ := c.def_ 6 (d := dd_is_list) rfl
  obtain ⟨fd_is_plain, F_is_plain⟩ := c.def_ 7 (d := dd_is_plain) rfl
  obtain ⟨fd_is_whole, F_is_whole⟩ := c.def_ 8 (d := dd_is_whole) rfl
  obtain ⟨fd_need_distance, F_need_distance⟩ := c.def_ 9 (d := dd_need_distance) rfl
  obtain ⟨fd_need_distances, F_need_distances⟩ := c.def_ 10 (d := dd_need_distances) rfl
  obtain ⟨fd_groups_of, F_groups_of⟩ := c.def_ 11 (d := dd_groups_of) rfl
  obtain ⟨fd_covering, F_covering⟩ := c.def_ 12 (d := dd_covering) rfl
  obtain ⟨fd_fewest_worths, F_fewest_worths⟩ := c.def_ 13 (d := dd_fewest_worths) rfl
  obtain ⟨fd_law_same, F_law_same⟩ := c.def_ 14 (d := dd_law_same) rfl
  obtain ⟨fd_law_reached, F_law_reached⟩ := c.def_ 15 (d := dd_law_reached) rfl
  obtain ⟨fd_law_far_apart, F_law_far_apart⟩ := c.def_ 16 (d := dd_law_far_apart) rfl
  obtain ⟨fd_law_lists, F_law_lists⟩ := c.def_ 17 (d := dd_law_lists) rfl
  obtain ⟨fd_law_none_fewer, F_law_none_fewer⟩ := c.def_ 18 (d := dd_law_none_fewer) rfl
  obtain ⟨fd_need_most, F_need_most⟩ := c.def_ 19 (d := dd_need_most) rfl
  obtain ⟨fd_reach_for, F_reach_for⟩ := c.def_ 20 (d := dd_reach_for) rfl
  obtain ⟨fd_least_reach, F_least_reach⟩ := c.def_ 21 (d := dd_least_reach) rfl
  obtain ⟨fd_law_reach_right, F_law_reach_right⟩ := c.def_ 22 (d := dd_law_reach_right) rfl
  obtain ⟨fd_law, F_law⟩ := c.def_ 23 (d := dd_law) rfl
  have e := hfa.symm.trans (He.glo_ok X G (c.fact 23 (f := .glo "law") rfl))
  cases e
  obtain ⟨tk_MOST_DISTANCES, ct_MOST_DISTANCES⟩ := He.int_ok X G (c.fact 36 (f := .int "MOST_DISTANCES" 100) rfl)
  obtain ⟨tk_MOST_UNITS, ct_MOST_UNITS⟩ := He.int_ok X G (c.fact 37 (f := .int "MOST_UNITS" 99999) rfl)
  obtain ⟨tk_MOST_WORTHS, ct_MOST_WORTHS⟩ := He.int_ok X G (c.fact 38 (f := .int "MOST_WORTHS" 12) rfl)
  let T : Tx K mg := ⟨
    ⟨_, fd_law_box, F_law_box, He.glo_ok X G (c.fact 0 (f := .glo "_law_box") rfl), FunD.bindsN F_law_box (fun _ _ _ _ _ _ us hl => match us, hl with | [_], _ => rfl)⟩,
    ⟨_, fd_law_cell, F_law_cell, He.glo_ok X G (c.fact 1 (f := .glo "_law_cell") rfl), FunD.bindsN F_law_cell (fun _ _ _ _ _ _ us hl => match us, hl with | [_, _], _ => rfl)⟩,
    ⟨_, fd_law_take, F_law_take, He.glo_ok X G (c.fact 2 (f := .glo "_law_take") rfl), FunD.bindsN F_law_take (fun _ _ _ _ _ _ us hl => match us, hl with | [_, _], _ => rfl)⟩,
    ⟨_, fd_law_distances, F_law_distances, He.glo_ok X G (c.fact 3 (f := .glo "_law_distances") rfl), FunD.bindsN F_law_distances (fun _ _ _ _ _ _ us hl => match us, hl with | [_, _], _ => rfl)⟩,
    ⟨_, fd_law_sorted, F_law_sorted, He.glo_ok X G (c.fact 4 (f := .glo "_law_sorted") rfl), FunD.bindsN F_law_sorted (fun _ _ _ _ _ _ us hl => match us, hl with | [_], _ => rfl)⟩,
    ⟨_, fd_law_due, F_law_due, He.glo_ok X G (c.fact 5 (f := .glo "_law_due") rfl), FunD.bindsN F_law_due (fun _ _ _ _ _ _ us hl => match us, hl with | [_, _], _ => rfl)⟩,
    ⟨_, fd_is_list, F_is_list, He.glo_ok X G (c.fact 6 (f := .glo "is_list") rfl), FunD.bindsN F_is_list (fun _ _ _ _ _ _ us hl => match us, hl with | [_, _, _], _ => rfl)⟩,
    ⟨_, fd_is_plain, F_is_plain, He.glo_ok X G (c.fact 7 (f := .glo "is_plain") rfl), FunD.bindsN F_is_plain (fun _ _ _ _ _ _ us hl => match us, hl with | [_], _ => rfl)⟩,
    ⟨_, fd_is_whole, F_is_whole, He.glo_ok X G (c.fact 8 (f := .glo "is_whole") rfl), FunD.bindsN F_is_whole (fun _ _ _ _ _ _ us hl => match us, hl with | [_, _, _], _ => rfl)⟩,
    ⟨_, fd_need_distance, F_need_distance, He.glo_ok X G (c.fact 9 (f := .glo "need_distance") rfl), FunD.bindsN F_need_distance (fun _ _ _ _ _ _ us hl => match us, hl with | [_], _ => rfl)⟩,
    ⟨_, fd_need_distances, F_need_distances, He.glo_ok X G (c.fact 10 (f := .glo "need_distances") rfl), FunD.bindsN F_need_distances (fun _ _ _ _ _ _ us hl => match us, hl with | [_], _ => rfl)⟩,
    ⟨_, fd_groups_of, F_groups_of, He.glo_ok X G (c.fact 11 (f := .glo "groups_of") rfl), FunD.bindsN F_groups_of (fun _ _ _ _ _ _ us hl => match us, hl with | [_, _], _ => rfl)⟩,
    ⟨_, fd_covering, F_covering, He.glo_ok X G (c.fact 12 (f := .glo "covering") rfl), FunD.bindsN F_covering (fun _ _ _ _ _ _ us hl => match us, hl with | [_, _], _ => rfl)⟩,
    ⟨_, fd_fewest_worths, F_fewest_worths, He.glo_ok X G (c.fact 13 (f := .glo "fewest_worths") rfl), FunD.bindsN F_fewest_worths (fun _ _ _ _ _ _ us hl => match us, hl with | [_, _], _ => rfl)⟩,
    kb_of_fun F_fewest_worths _ (fun _ _ _ _ _ _ us ws h1 h2 => match us, ws, h1, h2 with | [], [_, _], _, _ => rfl),
    ⟨_, fd_law_same, F_law_same, He.glo_ok X G (c.fact 14 (f := .glo "_law_same") rfl), FunD.bindsN F_law_same (fun _ _ _ _ _ _ us hl => match us, hl with | [_, _], _ => rfl)⟩,
    ⟨_, fd_law_reached, F_law_reached, He.glo_ok X G (c.fact 15 (f := .glo "_law_reached") rfl), FunD.bindsN F_law_reached (fun _ _ _ _ _ _ us hl => match us, hl with | [_, _, _], _ => rfl)⟩,
    ⟨_, fd_law_far_apart, F_law_far_apart, He.glo_ok X G (c.fact 16 (f := .glo "_law_far_apart") rfl), FunD.bindsN F_law_far_apart (fun _ _ _ _ _ _ us hl => match us, hl with | [_, _], _ => rfl)⟩,
    ⟨_, fd_law_lists, F_law_lists, He.glo_ok X G (c.fact 17 (f := .glo "_law_lists") rfl), FunD.bindsN F_law_lists (fun _ _ _ _ _ _ us hl => match us, hl with | [_, _, _], _ => rfl)⟩,
    ⟨_, fd_law_none_fewer, F_law_none_fewer, He.glo_ok X G (c.fact 18 (f := .glo "_law_none_fewer") rfl), FunD.bindsN F_law_none_fewer (fun _ _ _ _ _ _ us hl => match us, hl with | [_, _, _], _ => rfl)⟩,
    ⟨_, fd_need_most, F_need_most, He.glo_ok X G (c.fact 19 (f := .glo "need_most") rfl), FunD.bindsN F_need_most (fun _ _ _ _ _ _ us hl => match us, hl with | [_], _ => rfl)⟩,
    ⟨_, fd_reach_for, F_reach_for, He.glo_ok X G (c.fact 20 (f := .glo "reach_for") rfl), FunD.bindsN F_reach_for (fun _ _ _ _ _ _ us hl => match us, hl with | [_, _], _ => rfl)⟩,
    ⟨_, fd_least_reach, F_least_reach, He.glo_ok X G (c.fact 21 (f := .glo "least_reach") rfl), FunD.bindsN F_least_reach (fun _ _ _ _ _ _ us hl => match us, hl with | [_, _], _ => rfl)⟩,
    kb_of_fun F_least_reach _ (fun _ _ _ _ _ _ us ws h1 h2 => match us, ws, h1, h2 with | [], [_, _], _, _ => rfl),
    ⟨_, fd_law_reach_right, F_law_reach_right, He.glo_ok X G (c.fact 22 (f := .glo "_law_reach_right") rfl), FunD.bindsN F_law_reach_right (fun _ _ _ _ _ _ us hl => match us, hl with | [_, _], _ => rfl)⟩,
    He.free_ok X G (c.fact 24 (f := .free "abs") rfl),
    He.free_ok X G (c.fact 25 (f := .free "bool") rfl),
    He.free_ok X G (c.fact 26 (f := .free "int") rfl),
    He.free_ok X G (c.fact 27 (f := .free "isinstance") rfl),
    He.free_ok X G (c.fact 28 (f := .free "len") rfl),
    He.free_ok X G (c.fact 29 (f := .free "list") rfl),
    He.free_ok X G (c.fact 30 (f := .free "max") rfl),
    He.free_ok X G (c.fact 31 (f := .free "min") rfl),
    He.free_ok X G (c.fact 32 (f := .free "range") rfl),
    He.free_ok X G (c.fact 33 (f := .free "sorted") rfl),
    He.free_ok X G (c.fact 34 (f := .free "str") rfl),
    He.free_ok X G (c.fact 35 (f := .free "tuple") rfl),
    tk_MOST_DISTANCES,
    ct_MOST_DISTANCES,
    tk_MOST_UNITS,
    ct_MOST_UNITS,
    tk_MOST_WORTHS,
    ct_MOST_WORTHS⟩
  exact ⟨fd_law, fun s v => FunD.bindsA (ps := P_law) F_law (fun _ _ _ _ _ _ us hl => match us, hl with | [_], _ => rfl) s [v] rfl, fun base _ _ => ok_law T F_law⟩
end K73
open PySem PySem.W PySem.Calls PyProof.Rows
set_option maxRecDepth 100000 in
set_option maxHeartbeats 0 in
theorem PySem.Challenge.cw_hintscribe_k73_whole_fewest_worths_holds : PySem.Challenge.rw_hintscribe_k73_whole_fewest_worths.Holds := by
  w_on; o_law
  refine HandSHeadRun.head_any (r := OpenLaw.row PySem.Challenge.rw_hintscribe_k73_whole_fewest_worths) (q := view (OpenLaw.row PySem.Challenge.rw_hintscribe_k73_whole_fewest_worths).prog [34]) (H := K73.hk) (ob := K73.ob) (M := 2000) (loose := K73.others) (d := HandSHeadRun.topDef (OpenLaw.row PySem.Challenge.rw_hintscribe_k73_whole_fewest_worths).prog 34) (kwd := []) K73.ob_eq
    (by kernel_rfl) (fun s => by kernel_rfl) K73.run (by kernel_rfl) (by kernel_rfl) (by kernel_rfl) (by rfl) (by first | assumption | decide +kernel) (by decide +kernel) ⟨rfl, rfl, rfl, rfl, rfl, by decide +kernel⟩ ?hw ?hc
  case hw => w_witness2
  case hc =>
    refine DL.walk_lawE (l := PySem.Challenge.rw_hintscribe_k73_whole_fewest_worths) (n := 63) (k := 10) (x := "script") rfl (by decide) (by kernel_rfl) ⟨rfl, by decide, by decide⟩ ?F
    intro w mg fa h Y G hmg0
    obtain ⟨K, KX, c⟩ := Y
    have hmg : mg ("law" : PySem.Str) = some (.ref fa) := by
      have e : (HandSHeadRun.topDef (OpenLaw.row PySem.Challenge.rw_hintscribe_k73_whole_fewest_worths).prog 34).name = ("law" : PySem.Str) := by kernel_rfl
      rw [← e]
      exact hmg0
    obtain ⟨fd, hb, hF⟩ := K73.facts (P := (PySem.Challenge.rw_hintscribe_k73_whole_fewest_worths).prog) (w := w) KX G hmg c
    exact ⟨K, fd, KX, hb, hF⟩
#print axioms PySem.Challenge.cw_hintscribe_k73_whole_fewest_worths_holds
